import PyProof.Rows.All
import Wide.All
import OpenK.AllK
import Wide.FinOn
import HandS.ForMost
import HandS.IsInst
import HandS.Flow
import HandS.Style
import HandS.TupAny
import HandS.Codes
import HandS.Wide
import HandS.Deep
import HandS.Zip
import HandS.Exc
import HandS.ExcOwn
import HandS.TryMany
import HandS.WordsExc
import KE.KDictKeyed
import HandS.TupMul
import HandS.Dict
import HandS.Words
import HandS.Text
import HandS.More
import PyProof.ListStr
import KE.DatumOrd
import HandS.List
import HandS.Replace
import PyProof.Rows.StrRev
import PyProof.Rows.StrTemp
import PyProof.SliceStr2
import HandS.Ends
import HandS.RaiseMore
import PyProof.ReprRoads
import PyProof.ReprLen
import PyProof.StrLawsRepr
import PyProof.CallFns
import PyProof.StrOps2
import KE.GoesEnum
import KE.GoesNew
import HandS.Iter
import PyProof.SumAny
import PyProof.Rows.SumGenD
import PyProof.TwoTypesSub
import HandS.Strs
import PyProof.StrWalks
import HandS.Proxy
import PyProof.NeKinds
import KE.KDictDisplayH
import PyProof.TupleOfStr
import PyProof.Rows.SortShellAny
import HandS.Conv
import HandS.DictComp
import HandS.DeepEq
import PyProof.ListMulRight
import PyProof.AutoIntG3
import KE.DataFind
import PyProof.Rows.TupTab
import HandS.ExcIs
import PyProof.Rows.CountFlat
import HandS.TupLen
import HandS.SetKeys
import PyProof.CollectStr
import PySem.Challenge.RW_wordrules_k43_what_is_a_step
set_option Elab.async false
set_option linter.all false
set_option maxRecDepth 100000
set_option maxHeartbeats 4000000
namespace AL
open PySem PySem.Spec L2
inductive D where
  | non | bl (b : Bool) | int (i : Int) | str (x : Str) | lst (xs : List D) | tup (xs : List D) | dk (kvs : List (Key × D)) | scr (ns : List Int) | ce (a : Addr)
  deriving Inhabited
inductive Cell where
  | lst (xs : List D) | dk (kvs : List (Key × D)) | dn (kvs : List (NestedKey × D)) | exc (nm : Str) | ob (nm : Str) (fs : List (Str × D))
abbrev AH := Addr → Option Cell
def put (C : AH) (a : Addr) (c : Cell) : AH := fun b => if b = a then some c else C b
def del (C : AH) (a : Addr) : AH := fun b => if b = a then none else C b
@[simp] theorem put_same {C : AH} {a : Addr} {c : Cell} : put C a c a = some c := by unfold put; rw [if_pos rfl]
theorem put_ne {C : AH} {a b : Addr} {c : Cell} (h : b ≠ a) : put C a c b = C b := by unfold put; rw [if_neg h]
@[simp] theorem put_put {C : AH} {a : Addr} {c d : Cell} : put (put C a c) a d = put C a d := by
  funext b; unfold put; split <;> rfl
def Ex (H H' : Hp) : Prop := ∀ a o, H a = some o → H' a = some o
theorem Ex.refl (H : Hp) : Ex H H := fun _ _ h => h
theorem Ex.trans {H H1 H2 : Hp} (a : Ex H H1) (b : Ex H1 H2) : Ex H H2 := fun x o h => b x o (a x o h)
theorem Ex.new {H : Hp} {p : Addr} {o : HO} (h : H p = none) : Ex H (upd H p o) := fun a u e => by
  rw [upd_ne (ne_of_none e h)]
  exact e
theorem Ex.l {K : PySem.W.Frag} {H H' : Hp} {a : Addr} {xs : List V} (e : Ex H H') (h : SqL K H a xs) : SqL K H' a xs := by
  rcases h with (h | ⟨o, h⟩) | h
  · exact Or.inl (Or.inl (e a _ h))
  · exact Or.inl (Or.inr ⟨o, e a _ h⟩)
  · exact Or.inr h
theorem Ex.back {H H' : Hp} {p : Addr} (e : Ex H H') (h : H' p = none) : H p = none := by
  cases h1 : H p with
  | none => rfl
  | some o => rw [e p o h1] at h; cases h
def wkP : List D → Bool
  | [.int _, _] => true
  | _ => false
/-- at a stands a tuple -/
def TupS (F : Hp) (a : Addr) (xs : List V) (ds : List D) : Prop := Rd F a (.tup xs) ∧ (wkP ds = false → ∃ o : Obj, o.dict = none ∧ F a = some (.frz o (.tup xs)))
theorem rdUp {F F' : Hp} {a : Addr} {u : HO} (h : Rd F a u) (e : Ex F F') : Rd F' a u := by
  rcases h with h | ⟨o, h⟩
  · exact .inl (e a _ h)
  · exact .inr ⟨o, e a _ h⟩
theorem TupS.mono {F F' : Hp} {a : Addr} {xs : List V} {ds : List D} (h : TupS F a xs ds) (e : Ex F F') : TupS F' a xs ds :=
  ⟨rdUp h.1 e, fun q => let ⟨o, h1, h2⟩ := h.2 q; ⟨o, h1, e a _ h2⟩⟩
theorem TupS.sq {K : PySem.W.Frag} {F H : Hp} {a : Addr} {xs : List V} {ds : List D} (h : TupS F a xs ds) (e : Ex F H) : SqT K H a xs := .inl (rdUp h.1 e)
theorem SqT.of {K : PySem.W.Frag} {H : Hp} {a : Addr} {xs : List V} (h : Rd H a (.tup xs)) : SqT K H a xs := .inl h
theorem TupS.frz {F : Hp} {a : Addr} {xs : List V} {ds : List D} {o : Obj} (h1 : o.dict = none) (h2 : F a = some (.frz o (.tup xs))) : TupS F a xs ds := ⟨.inr ⟨o, h2⟩, fun _ => ⟨o, h1, h2⟩⟩
theorem rdInj {F : Hp} {a : Addr} {xs ys : List V} (h : Rd F a (.tup xs)) (g : Rd F a (.tup ys)) : xs = ys := by
  rcases h with h | ⟨o, h⟩ <;> rcases g with g | ⟨o2, g⟩ <;> rw [h] at g <;> cases g <;> rfl
mutual
inductive Rep (K : PySem.W.Frag) (F : Hp) : V → D → Prop
  | non : Rep K F .non .non
  | bl (b : Bool) : Rep K F (.bl b) (.bl b)
  | int (i : Int) : Rep K F (.int i) (.int i)
  | str (x : Str) : Rep K F (.str x) (.str x)
  | lst {a : Addr} {xs : List V} {ds : List D} : F a = some (.lst xs) → RepL K F xs ds → Rep K F (.ref a) (.lst ds)
  | tup {a : Addr} {xs : List V} {ds : List D} : TupS F a xs ds → RepL K F xs ds → Rep K F (.ref a) (.tup ds)
  | dk {a : Addr} {kvs : List (Key × V)} {es : List (Key × D)} : F a = some (.dK kvs) → RepK K F kvs es → Rep K F (.ref a) (.dk es)
  | scr {a : Addr} {ns : List Int} : SqL K F a (ns.map V.int) → Rep K F (.ref a) (.scr ns)
  | ce (a : Addr) : Rep K F (.ref a) (.ce a)
inductive RepL (K : PySem.W.Frag) (F : Hp) : List V → List D → Prop
  | nil : RepL K F [] []
  | cons {v : V} {vs : List V} {d : D} {ds : List D} : Rep K F v d → RepL K F vs ds → RepL K F (v :: vs) (d :: ds)
inductive RepK (K : PySem.W.Frag) (F : Hp) : List (Key × V) → List (Key × D) → Prop
  | nil : RepK K F [] []
  | cons {k : Key} {v : V} {vs : List (Key × V)} {d : D} {ds : List (Key × D)} : Rep K F v d → RepK K F vs ds → RepK K F ((k, v) :: vs) ((k, d) :: ds)
end
mutual
theorem Rep.mono {K : PySem.W.Frag} {F F' : Hp} (e : Ex F F') : ∀ {v : V} {d : D}, Rep K F v d → Rep K F' v d
  | _, _, .non => .non
  | _, _, .bl b => .bl b
  | _, _, .int i => .int i
  | _, _, .str x => .str x
  | _, _, .lst h r => .lst (e _ _ h) (RepL.mono e r)
  | _, _, .tup h r => .tup (h.mono e) (RepL.mono e r)
  | _, _, .dk h r => .dk (e _ _ h) (RepK.mono e r)
  | _, _, .scr h => .scr (e.l h)
  | _, _, .ce a => .ce a
theorem RepL.mono {K : PySem.W.Frag} {F F' : Hp} (e : Ex F F') : ∀ {vs : List V} {ds : List D}, RepL K F vs ds → RepL K F' vs ds
  | _, _, .nil => .nil
  | _, _, .cons r t => .cons (Rep.mono e r) (RepL.mono e t)
theorem RepK.mono {K : PySem.W.Frag} {F F' : Hp} (e : Ex F F') : ∀ {vs : List (Key × V)} {ds : List (Key × D)}, RepK K F vs ds → RepK K F' vs ds
  | _, _, .nil => .nil
  | _, _, .cons r t => .cons (Rep.mono e r) (RepK.mono e t)
end
section
variable {K : PySem.W.Frag} {F F' : Hp}
theorem RepL.length : ∀ {vs : List V} {ds : List D}, RepL K F vs ds → vs.length = ds.length
  | _, _, .nil => rfl
  | _, _, .cons _ t => by rw [List.length_cons, List.length_cons, RepL.length t]
theorem RepL.get : ∀ {vs : List V} {ds : List D} {i : Nat} {v : V}, RepL K F vs ds → vs[i]? = some v → ∃ d, ds[i]? = some d ∧ Rep K F v d
  | _, _, _, _, .nil, e => by simp at e
  | _, _, 0, _, .cons r _, e => by simp at e; subst e; exact ⟨_, rfl, r⟩
  | _, _, i + 1, v, .cons _ t, e => by
    obtain ⟨u, h1, h2⟩ := RepL.get (i := i) (v := v) t (by simpa using e)
    exact ⟨u, by simpa using h1, h2⟩
theorem RepL.getD : ∀ {vs : List V} {ds : List D} {i : Nat} {d : D}, RepL K F vs ds → ds[i]? = some d → ∃ v, vs[i]? = some v ∧ Rep K F v d
  | _, _, _, _, .nil, e => by simp at e
  | _, _, 0, _, .cons r _, e => by simp at e; subst e; exact ⟨_, rfl, r⟩
  | _, _, i + 1, v, .cons _ t, e => by
    obtain ⟨u, h1, h2⟩ := RepL.getD (i := i) (d := v) t (by simpa using e)
    exact ⟨u, by simpa using h1, h2⟩
theorem RepL.set {x : V} {u : D} (r : Rep K F x u) : ∀ {xs : List V} {us : List D} (i : Nat), RepL K F xs us → RepL K F (xs.set i x) (us.set i u)
  | _, _, _, .nil => .nil
  | _, _, 0, .cons _ t => .cons r t
  | _, _, i + 1, .cons q t => .cons q (RepL.set r i t)
theorem RepL.append : ∀ {xs ys : List V} {us ws : List D}, RepL K F xs us → RepL K F ys ws → RepL K F (xs ++ ys) (us ++ ws)
  | _, _, _, _, .nil, s => s
  | _, _, _, _, .cons r t, s => .cons r (RepL.append t s)
theorem RepL.take : ∀ {xs : List V} {us : List D} (n : Nat), RepL K F xs us → RepL K F (xs.take n) (us.take n)
  | _, _, 0, _ => .nil
  | _, _, _ + 1, .nil => .nil
  | _, _, n + 1, .cons r t => .cons r (RepL.take n t)
theorem RepL.drop : ∀ {xs : List V} {us : List D} (n : Nat), RepL K F xs us → RepL K F (xs.drop n) (us.drop n)
  | _, _, 0, r => r
  | _, _, _ + 1, .nil => .nil
  | _, _, n + 1, .cons _ t => RepL.drop n t
theorem RepL.reverse : ∀ {xs : List V} {us : List D}, RepL K F xs us → RepL K F xs.reverse us.reverse
  | _, _, .nil => .nil
  | _, _, .cons r t => by
    rw [List.reverse_cons, List.reverse_cons]
    exact RepL.append (RepL.reverse t) (.cons r .nil)
theorem RepL.erase : ∀ {xs : List V} {us : List D} (i : Nat), RepL K F xs us → RepL K F (xs.eraseIdx i) (us.eraseIdx i)
  | _, _, _, .nil => .nil
  | _, _, 0, .cons _ t => t
  | _, _, i + 1, .cons q t => .cons q (RepL.erase i t)
theorem RepL.ints : ∀ ns : List Int, RepL K F (ns.map V.int) (ns.map D.int)
  | [] => .nil
  | n :: ns => .cons (.int n) (RepL.ints ns)
theorem RepL.ofInts : ∀ {xs : List V} {ns : List Int}, RepL K F xs (ns.map D.int) → xs = ns.map V.int
  | _, [], .nil => rfl
  | _, n :: ns, .cons (.int _) t => by rw [List.map_cons, RepL.ofInts t]
theorem RepL.ofStrs : ∀ {xs : List V} {ns : List Str}, RepL K F xs (ns.map D.str) → xs = ns.map V.str
  | _, [], .nil => rfl
  | _, n :: ns, .cons (.str _) t => by rw [List.map_cons, RepL.ofStrs t]
theorem RepL.ofBls : ∀ {xs : List V} {ns : List Bool}, RepL K F xs (ns.map D.bl) → xs = ns.map V.bl
  | _, [], .nil => rfl
  | _, n :: ns, .cons (.bl _) t => by rw [List.map_cons, RepL.ofBls t]
end
/-- entries whose keys are tuples -/
inductive RepT (K : PySem.W.Frag) (F : Hp) : List (List Key × V) → List (List Key × D) → Prop
  | nil : RepT K F [] []
  | cons {k : List Key} {v : V} {vs : List (List Key × V)} {d : D} {ds : List (List Key × D)} : Rep K F v d → RepT K F vs ds → RepT K F ((k, v) :: vs) ((k, d) :: ds)
theorem RepT.mono {K : PySem.W.Frag} {F F' : Hp} (e : Ex F F') : ∀ {vs : List (List Key × V)} {ds : List (List Key × D)}, RepT K F vs ds → RepT K F' vs ds
  | _, _, .nil => .nil
  | _, _, .cons r t => .cons (r.mono e) (t.mono e)
mutual
/-- a value that is a key -/
inductive VKey (F : Hp) : V → NestedKey → Prop
  | non : VKey F .non .none
  | bl (b : Bool) : VKey F (.bl b) (.num (if b = true then 1 else 0))
  | int (i : Int) : VKey F (.int i) (.num i)
  | str (x : Str) : VKey F (.str x) (.text x)
  | tup {a : Addr} {vs : List V} {ks : List NestedKey} : Rd F a (.tup vs) → VKeys F vs ks → VKey F (.ref a) (.tup ks)
inductive VKeys (F : Hp) : List V → List NestedKey → Prop
  | nil : VKeys F [] []
  | cons {v : V} {vs : List V} {k : NestedKey} {ks : List NestedKey} : VKey F v k → VKeys F vs ks → VKeys F (v :: vs) (k :: ks)
end
mutual
theorem VKey.mono {F F' : Hp} (e : Ex F F') : ∀ {v : V} {k : NestedKey}, VKey F v k → VKey F' v k
  | _, _, .non => .non
  | _, _, .bl b => .bl b
  | _, _, .int i => .int i
  | _, _, .str x => .str x
  | _, _, .tup h r => .tup (rdUp h e) (VKeys.mono e r)
theorem VKeys.mono {F F' : Hp} (e : Ex F F') : ∀ {v : List V} {k : List NestedKey}, VKeys F v k → VKeys F' v k
  | _, _, .nil => .nil
  | _, _, .cons r t => .cons (VKey.mono e r) (VKeys.mono e t)
end
inductive RepN (K : PySem.W.Frag) (F : Hp) : List (NestedKey × Addr × V) → List (NestedKey × D) → Prop
  | nil : RepN K F [] []
  | cons {k : NestedKey} {a : Addr} {v : V} {vs : List (NestedKey × Addr × V)} {d : D} {ds : List (NestedKey × D)} : VKey F (.ref a) k → k.depth ≤ 8 → Rep K F v d → RepN K F vs ds → RepN K F ((k, a, v) :: vs) ((k, d) :: ds)
theorem RepN.mono {K : PySem.W.Frag} {F F' : Hp} (e : Ex F F') : ∀ {vs : List (NestedKey × Addr × V)} {ds : List (NestedKey × D)}, RepN K F vs ds → RepN K F' vs ds
  | _, _, .nil => .nil
  | _, _, .cons a b r t => .cons (a.mono e) b (r.mono e) (t.mono e)
/-- at p stands a dict with these entries -/
def DictN (w : World) (p : Addr) (xs : List (NestedKey × Addr × V)) : Heap → Prop := fun h => xs.length ≤ sizeLine ∧ (p == sysModules) = false ∧
  ∃ ys : List (NestedKey × Addr × Value), Paired (fun (x : NestedKey × Addr × V) (y : NestedKey × Addr × Value) => x.1 = y.1 ∧ x.2.1 = y.2.1 ∧ RelV x.2.2 y.2.2) xs ys ∧
  ∃ (o : Obj) (es : Array DictEntry) (ep : Nat), h.get? p = some o ∧ o.ExactDict ∧ o.data = .dict es ep ∧ es.toList = ys.map (fun x => (⟨x.1.hash w, .ref x.2.1, x.2.2⟩ : DictEntry)) ∧ (ys.map (·.1)).Nodup
/-- fields of an object -/
inductive RepF (K : PySem.W.Frag) (F : Hp) : List (Str × V) → List (Str × D) → Prop
  | nil : RepF K F [] []
  | cons {k : Str} {v : V} {vs : List (Str × V)} {d : D} {ds : List (Str × D)} : Rep K F v d → RepF K F vs ds → RepF K F ((k, v) :: vs) ((k, d) :: ds)
theorem RepF.mono {K : PySem.W.Frag} {F F' : Hp} (e : Ex F F') : ∀ {vs : List (Str × V)} {ds : List (Str × D)}, RepF K F vs ds → RepF K F' vs ds
  | _, _, .nil => .nil
  | _, _, .cons r t => .cons (r.mono e) (t.mono e)
/-- the grounds: the world, the module's names -/
structure Gd where
  w : World
  mg : Str → Option Value
/-- at p stands an exception of a class, without attributes -/
def ExcAt (cls : Value) (p : Addr) : Heap → Prop := fun h => ∃ (oe : Obj) (vs : Array Value), h.get? p = some oe ∧ oe.cls = cls ∧ oe.dict = none ∧ oe.data = .fields vs
/-- what a cell holds -/
inductive CellC (w : Gd) (K : PySem.W.Frag) (F : Hp) (p : Addr) : HO → Cell → Prop
  | lst {xs : List V} {ds : List D} : RepL K F xs ds → CellC w K F p (.lst xs) (.lst ds)
  | dk {kvs : List (Key × V)} {es : List (Key × D)} : RepK K F kvs es → CellC w K F p (.dK kvs) (.dk es)
  | dn {xs : List (NestedKey × Addr × V)} {es : List (NestedKey × D)} : RepN K F xs es → CellC w K F p (.ext (DictN w.w p xs)) (.dn es)
  | exc {nm : Str} {cls : Value} : w.mg nm = some cls → CellC w K F p (.ext (ExcAt cls p)) (.exc nm)
  | ob {nm : Str} {C dx : Addr} {fs : List (Str × V)} {es : List (Str × D)} : w.mg nm = some (.ref C) → RepF K F fs es → CellC w K F p (.ins C dx fs) (.ob nm es)
theorem CellC.mono {w : Gd} {K : PySem.W.Frag} {F F' : Hp} {p : Addr} (e : Ex F F') {o : HO} {c : Cell} : CellC w K F p o c → CellC w K F' p o c
  | .lst r => .lst (r.mono e)
  | .dk r => .dk (r.mono e)
  | .dn r => .dn (r.mono e)
  | .exc h => .exc h
  | .ob h r => .ob h (r.mono e)
/-- what was known, and kept aside, where the def, or the try, was entered -/
structure Bs where
  F0 : Hp
  R0 : Hp
  g : Gd
/-- the empty ground -/
def Bs.nil (w : Gd) : Bs := ⟨fun _ => none, fun _ => none, w⟩
/-- F: what is known for good; C: the cells; R: what is kept aside -/
structure Sat (B : Bs) (K : PySem.W.Frag) (F : Hp) (C : AH) (R H : Hp) : Prop where
  bF : Ex B.F0 F
  bR : Ex B.R0 R
  ex : Ex F H
  cell : ∀ p c, C p = some c → F p = none ∧ ∃ o, H p = some o ∧ CellC B.g K F p o c
  priv : ∀ p o, R p = some o → F p = none ∧ C p = none ∧ H p = some o
section
variable {B : Bs} {K : PySem.W.Frag} {F F' : Hp} {C : AH} {R H : Hp} {p : Addr}
theorem Sat.rebase {B' : Bs} (S : Sat B K F C R H) (hw : B'.g = B.g) (h1 : Ex B'.F0 F) (h2 : Ex B'.R0 R) : Sat B' K F C R H := ⟨h1, h2, S.ex, fun p c e => by rw [hw]; exact S.cell p c e, S.priv⟩
theorem Sat.nil (S : Sat B K F C R H) : Sat (Bs.nil B.g) K F C R H := S.rebase rfl (fun _ _ e => by cases e) (fun _ _ e => by cases e)
/-- back behind a call -/
theorem Sat.back {C0 : AH} {H0 : Hp} {F1 : Hp} {C1 : AH} {H1 : Hp} (S : Sat B K F C0 R H0) (e : Ex F F1) (S1 : Sat (Bs.nil B.g) K F1 C1 R H1) : Sat B K F1 C1 R H1 := S1.rebase rfl (S.bF.trans e) S.bR
theorem Sat.freeB (S : Sat B K F C R H) (h : R p = none) : B.R0 p = none := S.bR.back h
theorem Sat.freeF (S : Sat B K F C R H) (h : H p = none) : F p = none := S.ex.back h
theorem Sat.freeC (S : Sat B K F C R H) (h : H p = none) : C p = none := by
  cases q : C p with
  | none => rfl
  | some c => obtain ⟨_, o, e, _⟩ := S.cell p c q; rw [h] at e; cases e
theorem Sat.freeR (S : Sat B K F C R H) (h : H p = none) : R p = none := by
  cases q : R p with
  | none => rfl
  | some c => have e := (S.priv p c q).2.2; rw [h] at e; cases e
/-- a new object, known for good -/
theorem Sat.newF (S : Sat B K F C R H) (h : H p = none) (o : HO) : Sat B K (upd F p o) C R (upd H p o) := by
  have hF := S.freeF h
  refine ⟨S.bF.trans (Ex.new hF), S.bR, fun a u e => ?_, fun q c e => ?_, fun q u e => ?_⟩
  · by_cases ha : a = p
    · subst ha; rw [upd_same] at e ⊢; exact e
    · rw [upd_ne ha] at e ⊢; exact S.ex _ _ e
  · obtain ⟨h1, u, h2, h3⟩ := S.cell q c e
    have hq : q ≠ p := ne_of_none h2 h
    exact ⟨by rw [upd_ne hq]; exact h1, u, by rw [upd_ne hq]; exact h2, h3.mono (Ex.new hF)⟩
  · obtain ⟨h1, h2, h3⟩ := S.priv q u e
    have hq : q ≠ p := ne_of_none h3 h
    exact ⟨by rw [upd_ne hq]; exact h1, h2, by rw [upd_ne hq]; exact h3⟩
/-- a cell is made, or changed -/
theorem Sat.setC (S : Sat B K F C R H) (hF : F p = none) (hR : R p = none) {o : HO} {c : Cell} (h : CellC B.g K F p o c) : Sat B K F (put C p c) R (upd H p o) := by
  refine ⟨S.bF, S.bR, fun a u e => ?_, fun q d e => ?_, fun q u e => ?_⟩
  · rw [upd_ne (ne_of_none e hF)]; exact S.ex _ _ e
  · by_cases hq : q = p
    · subst hq; rw [put_same] at e; cases e; exact ⟨hF, o, upd_same, h⟩
    · rw [put_ne hq] at e
      obtain ⟨h1, u, h2, h3⟩ := S.cell q d e
      exact ⟨h1, u, by rw [upd_ne hq]; exact h2, h3⟩
  · have hq : q ≠ p := ne_of_none e hR
    obtain ⟨h1, h2, h3⟩ := S.priv q u e
    exact ⟨h1, by rw [put_ne hq]; exact h2, by rw [upd_ne hq]; exact h3⟩
theorem Sat.newC (S : Sat B K F C R H) (h : H p = none) {o : HO} {c : Cell} (hc : CellC B.g K F p o c) : Sat B K F (put C p c) R (upd H p o) := S.setC (S.freeF h) (S.freeR h) hc
theorem Sat.mutC (S : Sat B K F C R H) {c0 : Cell} (h : C p = some c0) {o : HO} {c : Cell} (hc : CellC B.g K F p o c) : Sat B K F (put C p c) R (upd H p o) := by
  refine S.setC (S.cell p c0 h).1 ?_ hc
  cases q : R p with
  | none => rfl
  | some u => have e := (S.priv p u q).2.1; rw [h] at e; cases e
/-- kept aside -/
theorem Sat.setR (S : Sat B K F C R H) (hF : F p = none) (hC : C p = none) (hB : B.R0 p = none) (o : HO) : Sat B K F C (upd R p o) (upd H p o) := by
  refine ⟨S.bF, fun q u e => by rw [upd_ne (ne_of_none e hB)]; exact S.bR q u e, fun a u e => ?_, fun q d e => ?_, fun q u e => ?_⟩
  · rw [upd_ne (ne_of_none e hF)]; exact S.ex _ _ e
  · have hq : q ≠ p := fun z => by rw [z, hC] at e; cases e
    obtain ⟨h1, u, h2, h3⟩ := S.cell q d e
    exact ⟨h1, u, by rw [upd_ne hq]; exact h2, h3⟩
  · by_cases hq : q = p
    · subst hq; rw [upd_same] at e; cases e; exact ⟨hF, hC, upd_same⟩
    · rw [upd_ne hq] at e
      obtain ⟨h1, h2, h3⟩ := S.priv q u e
      exact ⟨h1, h2, by rw [upd_ne hq]; exact h3⟩
/-- what was kept aside is known for good, is a cell -/
theorem Sat.outF (S : Sat B K F C (upd R p o) H) (hR : R p = none) (hB : B.R0 p = none) : Sat B K (upd F p o) C R H := by
  obtain ⟨f, c, h⟩ := S.priv p o upd_same
  refine ⟨S.bF.trans (Ex.new f), fun q u e => by have := S.bR q u e; rwa [upd_ne (ne_of_none e hB)] at this, fun a u e => ?_, fun q d e => ?_, fun q u e => ?_⟩
  · by_cases ha : a = p
    · subst ha; rw [upd_same] at e; cases e; exact h
    · rw [upd_ne ha] at e; exact S.ex _ _ e
  · have hq : q ≠ p := fun z => by rw [z, c] at e; cases e
    obtain ⟨h1, u, h2, h3⟩ := S.cell q d e
    exact ⟨by rw [upd_ne hq]; exact h1, u, h2, h3.mono (Ex.new f)⟩
  · have hq : q ≠ p := ne_of_none e hR
    obtain ⟨h1, h2, h3⟩ := S.priv q u (by rw [upd_ne hq]; exact e)
    exact ⟨by rw [upd_ne hq]; exact h1, h2, h3⟩
theorem Sat.outC {o : HO} {c : Cell} (S : Sat B K F C (upd R p o) H) (hR : R p = none) (hB : B.R0 p = none) (hc : CellC B.g K F p o c) : Sat B K F (put C p c) R H := by
  obtain ⟨f, c0, h⟩ := S.priv p o upd_same
  refine ⟨S.bF, fun q u e => by have := S.bR q u e; rwa [upd_ne (ne_of_none e hB)] at this, S.ex, fun q d e => ?_, fun q u e => ?_⟩
  · by_cases hq : q = p
    · subst hq; rw [put_same] at e; cases e; exact ⟨f, o, h, hc⟩
    · rw [put_ne hq] at e; exact S.cell q d e
  · have hq : q ≠ p := ne_of_none e hR
    obtain ⟨h1, h2, h3⟩ := S.priv q u (by rw [upd_ne hq]; exact e)
    exact ⟨h1, by rw [put_ne hq]; exact h2, h3⟩
/-- a cell is changed no more -/
theorem Sat.freeze {o : HO} {c : Cell} (S : Sat B K F C R H) (h : C p = some c) (hH : H p = some o) : Sat B K (upd F p o) (del C p) R H := by
  obtain ⟨f, _, _⟩ := S.cell p c h
  refine ⟨S.bF.trans (Ex.new f), S.bR, fun a u e => ?_, fun q d e => ?_, fun q u e => ?_⟩
  · by_cases ha : a = p
    · subst ha; rw [upd_same] at e; cases e; exact hH
    · rw [upd_ne ha] at e; exact S.ex _ _ e
  · by_cases hq : q = p
    · subst hq; unfold del at e; rw [if_pos rfl] at e; cases e
    · unfold del at e; rw [if_neg hq] at e
      obtain ⟨h1, u, h2, h3⟩ := S.cell q d e
      exact ⟨by rw [upd_ne hq]; exact h1, u, h2, h3.mono (Ex.new f)⟩
  · obtain ⟨h1, h2, h3⟩ := S.priv q u e
    have hq : q ≠ p := fun z => by rw [z, h] at h2; cases h2
    refine ⟨by rw [upd_ne hq]; exact h1, ?_, h3⟩
    unfold del; rw [if_neg hq]; exact h2
end
abbrev ASt := List (Option D)
structure Slo (K : PySem.W.Frag) (F : Hp) (s : ASt) (σ : St) : Prop where
  len : s.length = σ.length
  at' : ∀ (i : Nat) (d : D), s[i]? = some (some d) → ∃ v, σ[i]? = some (some v) ∧ Rep K F v d
section
variable {K : PySem.W.Frag} {F F' : Hp} {s : ASt} {σ : St}
theorem Slo.mono (r : Slo K F s σ) (e : Ex F F') : Slo K F' s σ := ⟨r.len, fun i d h => let ⟨v, a, b⟩ := r.at' i d h; ⟨v, a, b.mono e⟩⟩
theorem Slo.set (r : Slo K F s σ) {v : V} {d : D} (h : Rep K F v d) (i : Nat) : Slo K F (s.set i (some d)) (σ.set i (some v)) := by
  refine ⟨by rw [List.length_set, List.length_set, r.len], fun j e q => ?_⟩
  by_cases hj : i = j
  · subst hj
    by_cases hi : i < s.length
    · rw [List.getElem?_set_self hi] at q
      cases q
      exact ⟨v, List.getElem?_set_self (by rw [← r.len]; exact hi), h⟩
    · rw [List.getElem?_eq_none (by simpa using hi)] at q; cases q
  · rw [List.getElem?_set_ne hj] at q ⊢
    exact r.at' j e q
theorem Slo.forget (r : Slo K F s σ) (i : Nat) : Slo K F (s.set i none) (σ.set i none) := by
  refine ⟨by rw [List.length_set, List.length_set, r.len], fun j e q => ?_⟩
  by_cases hj : i = j
  · subst hj
    by_cases hi : i < s.length
    · rw [List.getElem?_set_self hi] at q; cases q
    · rw [List.getElem?_eq_none (by simpa using hi)] at q; cases q
  · rw [List.getElem?_set_ne hj] at q ⊢
    exact r.at' j e q
/-- only the abstract slot changes -/
theorem Slo.reset (r : Slo K F s σ) {i : Nat} {d0 d : D} (h0 : s[i]? = some (some d0)) (h : ∀ v, Rep K F v d0 → Rep K F v d) : Slo K F (s.set i (some d)) σ := by
  refine ⟨by rw [List.length_set, r.len], fun j e q => ?_⟩
  by_cases hj : i = j
  · subst hj
    have hi : i < s.length := (List.getElem?_eq_some_iff.mp h0).1
    rw [List.getElem?_set_self hi] at q
    cases q
    obtain ⟨v, h1, h2⟩ := r.at' i d0 h0
    exact ⟨v, h1, h v h2⟩
  · rw [List.getElem?_set_ne hj] at q
    exact r.at' j e q
def wipeA (s : ASt) : List Nat → ASt
  | [] => s
  | v :: vs => (wipeA s vs).set v none
theorem Slo.wipe (r : Slo K F s σ) : ∀ vs : List Nat, Slo K F (wipeA s vs) (L2.wipe σ vs)
  | [] => r
  | v :: vs => (Slo.wipe r vs).forget v
theorem Slo.start {vs : List V} {ds : List D} (h : RepL K F vs ds) (n : Nat) : Slo K F (ds.map some ++ List.replicate (n - ds.length) none) (vs.map some ++ List.replicate (n - vs.length) none) := by
  have e := h.length
  refine ⟨by simp [e], fun i d q => ?_⟩
  by_cases hi : i < ds.length
  · rw [List.getElem?_append_left (by simpa using hi), List.getElem?_map] at q
    rw [List.getElem?_append_left (by simpa [e] using hi), List.getElem?_map]
    cases z : ds[i]? with
    | none => rw [z] at q; cases q
    | some d' =>
      rw [z] at q
      cases q
      obtain ⟨v, h1, h2⟩ := h.getD z
      exact ⟨v, by rw [h1]; rfl, h2⟩
  · rw [List.getElem?_append_right (by simpa using hi), List.getElem?_replicate] at q
    split at q <;> cases q
end
end AL
namespace AL
open PySem PySem.Spec PyProof.Rows L2
def NewT (xs : List V) (Q : VK) (H : Hp) : Prop := ∀ (p : Addr) (ob : Obj), ob.dict = none → H p = none → Q (.ref p) (upd H p (.frz ob (.tup xs)))
section
variable {X : Cx} {pins : List (Addr × Obj)} {σ : L2.St} {H : Hp} {s : Shared}
theorem laidT {xs : List V} {its : List Value} {Q : VK} {h' : Heap} {tk : Nat} (I : Inv X pins σ H { s with heap := h' }) (hz : xs.length ≤ sizeLine) (r : L2.Vals xs its) (q : NewT xs Q H) :
    EP X pins σ Q (.ref h'.objs.size) { s with heap := h'.push { cls := .type "tuple", data := .seq its.toArray } } := by
  refine ⟨.ref h'.objs.size, upd H h'.objs.size (.frz { cls := .type "tuple", data := .seq its.toArray } (.tup xs)), I.laid (t' := s.toks) (fun b u e => Heap.get?_push_of_some _ e) (Nat.le_refl _) ?_, rfl, q _ _ rfl (I.hok.fresh (Nat.le_refl _))⟩
  exact ⟨Heap.get?_push_size _ rfl, hz, its, r, ⟨_, Heap.get?_push_size _ rfl, rfl, _, rfl⟩⟩
end
def tTupN (t : TA) : TE := fun σ H Q => t σ H fun xs H1 => xs.length ≤ sizeLine ∧ NewT xs Q H1
section
variable {X : Cx} {es : List Expr} {t : TA} {pos : Pos}
theorem pe_tupN {x1} (h : PA X es t) : PE X (.Tuple es x1 pos) (tTupN t) := by
  refine ⟨fun pins s σ H Q I hq => ?_⟩
  refine wpAny_Tuple_spliced (thn (h.run pos pins s σ H _ I hq) fun us s1 ⟨xs, H1, I1, r, z, q⟩ => ⟨by rw [← r.length]; exact z, ?_⟩)
  exact laidT (tk := s1.toks) I1 z r q
def rCatTN (K : PySem.W.Frag) : R2 := fun x y H Q => ∃ a b xs ys, x = .ref a ∧ y = .ref b ∧ SqT K H a xs ∧ SqT K H b ys ∧ xs.length + ys.length ≤ sizeLine ∧
  (xs = [] → Q (.ref b) H) ∧ (xs ≠ [] → ys = [] → Q (.ref a) H) ∧ (xs ≠ [] → ys ≠ [] → NewT (xs ++ ys) Q H)
theorem op_catTN : OpR X (binaryOp .Add) (rCatTN X.K) := by
  intro pins s σ H x y v u Q I rx ry h
  obtain ⟨a, b, xs, ys, rfl, rfl, ha, hb, hz, q0, q1, q2⟩ := h
  by_cases hx : xs = []
  · exact op_catA pins s σ H _ _ v u Q I rx ry ⟨a, b, xs, ys, rfl, rfl, ha, hb, hz, q0, q1, fun h => absurd hx h⟩
  by_cases hy : ys = []
  · exact op_catA pins s σ H _ _ v u Q I rx ry ⟨a, b, xs, ys, rfl, rfl, ha, hb, hz, q0, q1, fun _ h => absurd hy h⟩
  cases rx
  cases ry
  obtain ⟨its, r1, p1, _⟩ := I.tuple ha
  obtain ⟨its2, r2, p2, _⟩ := I.tuple hb
  refine HT.cat_tup p1 p2 (fun z => hx (r1.nil_iff.mp z)) (fun z => absurd (r2.nil_iff.mp z) hy) (fun z => ?_) (by rw [← r1.length, ← r2.length]; exact hz)
  exact laidT (tk := s.toks) I (by rw [List.length_append]; exact hz) (r1.append r2) (q2 hx hy)
def rSlTN (K : PySem.W.Frag) : V → Option Int → Option Int → Hp → VK → Prop := fun x lo hi H Q => ∃ a xs, x = .ref a ∧ SqT K H a xs ∧
  (HT.sIx xs.length 0 lo = 0 ∧ HT.sIx xs.length xs.length hi = xs.length → Q (.ref a) H) ∧ (¬ (HT.sIx xs.length 0 lo = 0 ∧ HT.sIx xs.length xs.length hi = xs.length) → NewT (cutV xs lo hi) Q H)
theorem sl_tupN : SlR X (rSlTN X.K) := by
  intro pins s σ H x v vl vu lo hi sl Q I rx hs pl pu h
  obtain ⟨a, xs, rfl, hx, q1, q2⟩ := h
  by_cases hw : HT.sIx xs.length 0 lo = 0 ∧ HT.sIx xs.length xs.length hi = xs.length
  · exact sl_tupA pins s σ H _ v vl vu lo hi sl Q I rx hs pl pu ⟨a, xs, rfl, hx, q1, fun h => absurd hw h⟩
  · cases rx
    obtain ⟨its, r, ht, hz⟩ := I.tuple hx
    have hlen : its.toArray.size = xs.length := by rw [List.size_toArray]; exact r.length.symm
    refine ⟨"tuple", _, PyProof.Rows.slot_tuple_getitem.lookup, ht.typeIs, ?_⟩
    refine HT.getItem_tuple_cut ht hs pl pu (by rw [hlen]; exact hw) ?_ (by rw [hlen]; exact hz)
    rw [hlen]
    exact laidT (tk := s.toks) I (Nat.le_trans (cutV_length xs lo hi) hz) ((r.drop (HT.sIx xs.length 0 lo)).take (HT.sIx xs.length xs.length hi - HT.sIx xs.length 0 lo)) (q2 hw)
def rTupOfN (K : PySem.W.Frag) : List V → Hp → VK → Prop := fun xs H Q => ∃ p ys, xs = [.ref p] ∧ ((SqL K H p ys ∧ NewT ys Q H) ∨ (SqT K H p ys ∧ Q (.ref p) H))
theorem call_tuple_ofN : CallR X (.type "tuple") (rTupOfN X.K) := by
  intro pins s σ H xs us Q I r h
  obtain ⟨p, ys, rfl, h⟩ := h
  rcases h with ⟨hq, q⟩ | h
  · obtain ⟨u, rfl, rx⟩ := vals1 r
    cases rx
    obtain ⟨its, r', pl, hz⟩ := I.list hq
    have hlen := r'.length
    refine call_tuple_list pl.isList (fun h' kp => ?_) (by simp only [List.size_toArray] <;> omega)
    have I1 : Inv X pins σ H { s with heap := h' } := I.kept (t' := s.toks) kp
    exact laidT (tk := s.toks) I1 hz r' q
  · exact call_tuple_of pins s σ H _ us Q I r ⟨p, ys, rfl, .inr h⟩
end
end AL
namespace AL
open PySem PySem.Spec L2
variable {B : Bs}
abbrev AE' := ASt → AH → (D → AH → Prop) → Prop
abbrev AT' := ASt → AH → (Bool → AH → Prop) → Prop
abbrev AA' := ASt → AH → (List D → AH → Prop) → Prop
structure AEnds where
  nx : ASt → AH → Prop
  rt : D → AH → Prop
  bk : ASt → AH → Prop := fun _ _ => False
  ct : ASt → AH → Prop := fun _ _ => False
abbrev AS' := AEnds → ASt → AH → Prop
abbrev AG' := D → ASt → AH → (ASt → AH → Prop) → Prop
/-- what is walked: the items, what must stay so, the cells -/
abbrev AI' := ASt → AH → (List D → (AH → Prop) → AH → Prop) → Prop
abbrev ASp := List D → AH → (D → AH → Prop) → Prop
section
variable (B : Bs) (K : PySem.W.Frag)
def SimE (te : TE) (a : AE') : Prop := ∀ (σ : L2.St) (s : ASt) (F : Hp) (C : AH) (R H : Hp) (Q : VK) (P : D → AH → Prop), Slo K F s σ → Sat B K F C R H → a s C P →
  (∀ d v F' C' H', Ex F F' → Sat B K F' C' R H' → Rep K F' v d → P d C' → Q v H') → te σ H Q
def SimT (tt : TT) (a : AT') : Prop := ∀ (σ : L2.St) (s : ASt) (F : Hp) (C : AH) (R H : Hp) (Q : Bool → Hp → Prop) (P : Bool → AH → Prop), Slo K F s σ → Sat B K F C R H → a s C P →
  (∀ b F' C' H', Ex F F' → Sat B K F' C' R H' → P b C' → Q b H') → tt σ H Q
def SimA (n : Nat) (ta : TA) (a : AA') : Prop := ∀ (σ : L2.St) (s : ASt) (F : Hp) (C : AH) (R H : Hp) (Q : List V → Hp → Prop) (P : List D → AH → Prop), Slo K F s σ → Sat B K F C R H → a s C P →
  (∀ ds vs F' C' H', Ex F F' → Sat B K F' C' R H' → RepL K F' vs ds → ds.length = n → P ds C' → Q vs H') → ta σ H Q
structure EndsR (F R : Hp) (E : AEnds) (D' : Ends) : Prop where
  nx : ∀ s σ F' C' H', Ex F F' → Slo K F' s σ → Sat B K F' C' R H' → E.nx s C' → D'.nx σ H'
  rt : ∀ d v F' C' H', Ex F F' → Rep K F' v d → Sat B K F' C' R H' → E.rt d C' → D'.rt v H'
  bk : ∀ s σ F' C' H', Ex F F' → Slo K F' s σ → Sat B K F' C' R H' → E.bk s C' → D'.bk σ H'
  ct : ∀ s σ F' C' H', Ex F F' → Slo K F' s σ → Sat B K F' C' R H' → E.ct s C' → D'.ct σ H'
def SimS (ts : TS) (a : AS') : Prop := ∀ (D' : Ends) (E : AEnds) (σ : L2.St) (s : ASt) (F : Hp) (C : AH) (R H : Hp), EndsR B K F R E D' → Slo K F s σ → Sat B K F C R H → a E s C → ts D' σ H
def SimG (g : TG) (a : AG') : Prop := ∀ (v : V) (d : D) (σ : L2.St) (s : ASt) (F : Hp) (C : AH) (R H : Hp) (Q : L2.St → Hp → Prop) (P : ASt → AH → Prop), Slo K F s σ → Sat B K F C R H → Rep K F v d → a d s C P →
  (∀ s' σ' F' C' H', Ex F F' → Slo K F' s' σ' → Sat B K F' C' R H' → P s' C' → Q σ' H') → g v σ H Q
/-- an iterator walks the items -/
structure Walks (F : Hp) (items : List D) (hold : AH → Prop) (J : It) : Prop where
  stop : ∀ F' C' R' H', Ex F F' → Sat B K F' C' R' H' → hold C' → J.stop items.length H'
  go : ∀ F' C' R' H' i, Ex F F' → Sat B K F' C' R' H' → hold C' → i < items.length → J.go i H'
  yld : ∀ F' C' R' H' i x H'', Ex F F' → Sat B K F' C' R' H' → hold C' → i < items.length → J.yld i H' x H'' → ∃ d F'', items[i]? = some d ∧ Ex F' F'' ∧ Sat B K F'' C' R' H'' ∧ Rep K F'' x d
def SimI (wi : TI) (a : AI') : Prop := ∀ (σ : L2.St) (s : ASt) (F : Hp) (C : AH) (R H : Hp) (Q : It → Hp → Prop) (P : List D → (AH → Prop) → AH → Prop), Slo K F s σ → Sat B K F C R H → a s C P →
  (∀ items hold J F' C' H', Ex F F' → Sat B K F' C' R H' → Walks B K F' items hold J → P items hold C' → Q J H') → wi σ H Q
def SimR2 (r : R2) (a : D → D → AH → (D → AH → Prop) → Prop) : Prop := ∀ (v w : V) (d e : D) (F : Hp) (C : AH) (R H : Hp) (Q : VK) (P : D → AH → Prop), Sat B K F C R H → Rep K F v d → Rep K F w e → a d e C P →
  (∀ d v F' C' H', Ex F F' → Sat B K F' C' R H' → Rep K F' v d → P d C' → Q v H') → r v w H Q
def SimR1 (r : V → Hp → VK → Prop) (a : D → AH → (D → AH → Prop) → Prop) : Prop := ∀ (v : V) (d : D) (F : Hp) (C : AH) (R H : Hp) (Q : VK) (P : D → AH → Prop), Sat B K F C R H → Rep K F v d → a d C P →
  (∀ d v F' C' H', Ex F F' → Sat B K F' C' R H' → Rep K F' v d → P d C' → Q v H') → r v H Q
def SimRL (r : List V → Hp → VK → Prop) (a : ASp) : Prop := ∀ (vs : List V) (ds : List D) (F : Hp) (C : AH) (R H : Hp) (Q : VK) (P : D → AH → Prop), Sat B K F C R H → RepL K F vs ds → a ds C P →
  (∀ d v F' C' H', Ex F F' → Sat B K F' C' R H' → Rep K F' v d → P d C' → Q v H') → r vs H Q
def SimRM (r : V → List V → Hp → VK → Prop) (a : D → ASp) : Prop := ∀ (v : V) (d : D) (vs : List V) (ds : List D) (F : Hp) (C : AH) (R H : Hp) (Q : VK) (P : D → AH → Prop), Sat B K F C R H → Rep K F v d → RepL K F vs ds → a d ds C P →
  (∀ d v F' C' H', Ex F F' → Sat B K F' C' R H' → Rep K F' v d → P d C' → Q v H') → r v vs H Q
end
structure AE (B : Bs) (X : Cx) (e : Expr) (te : TE) (a : AE') : Prop where
  pe : PE X e te
  sim : SimE B X.K te a
structure AT (B : Bs) (X : Cx) (e : Expr) (tt : TT) (a : AT') : Prop where
  pt : PT X e tt
  sim : SimT B X.K tt a
structure AW (B : Bs) (X : Cx) (e : Expr) (tt : TT) (a : AT') : Prop where
  pw : PW X e tt
  sim : SimT B X.K tt a
structure ATs (B : Bs) (X : Cx) (es : List Expr) (tt : TT) (a : AT') : Prop where
  pts : PTs X es tt
  sim : SimT B X.K tt a
structure AA (B : Bs) (X : Cx) (es : List Expr) (n : Nat) (ta : TA) (a : AA') : Prop where
  pa : PA X es ta
  sim : SimA B X.K n ta a
structure AS (B : Bs) (X : Cx) (st : Stmt) (ts : TS) (a : AS') : Prop where
  ps : PS X st ts
  sim : SimS B X.K ts a
structure ASs (B : Bs) (X : Cx) (st : List Stmt) (ts : TS) (a : AS') : Prop where
  ps : PSs X st ts
  sim : SimS B X.K ts a
/-- a target stores to the slots vs alone -/
def GIn (vs : List Nat) (g : TG) : Prop := ∀ x σ H (Q Q' : L2.St → Hp → Prop), g x σ H Q → (∀ σ2 H2, L2.wipe σ2 vs = L2.wipe σ vs → Q σ2 H2 → Q' σ2 H2) → g x σ H Q'
structure AG (B : Bs) (X : Cx) (e : Expr) (vs : List Nat) (g : TG) (a : AG') : Prop where
  pg : PG X e g
  sim : SimG B X.K g a
  inn : GIn vs g
structure AI (B : Bs) (X : Cx) (tg e : Expr) (wi : TI) (a : AI') : Prop where
  pi : PI X tg e wi
  sim : SimI B X.K wi a
def aVar (i : Nat) : AE' := fun s C P => match s[i]? with | some (some d) => P d C | _ => False
def aC (d : D) : AE' := fun _ C P => P d C
section
variable {X : Cx} {pos : Pos} {K : PySem.W.Frag}
theorem sim_var (i : Nat) : SimE B K (tVar i) (aVar i) := by
  intro σ s F C R H Q P hs hS h k
  unfold aVar at h
  split at h
  · rename_i d e
    obtain ⟨v, h1, h2⟩ := hs.at' i d e
    exact ⟨v, h1, k d v F C H (Ex.refl F) hS h2 h⟩
  · exact h.elim
theorem ae_v (i : Nat) {x : Str} (hN : X.N[i]? = some x := by rfl) (hv : Vis X.env.scope x := by first | exact Or.inl rfl | exact Or.inr (Or.inl rfl) | exact Or.inr (Or.inr rfl)) (hd : (x == ("__debug__" : Str)) = false := by decide)
    (hcd : (x == ("__classdict__" : Str)) = false := by decide) : AE B X (.Name x pos) (tVar i) (aVar i) := ⟨pe_var hN hv hd hcd, sim_var i⟩
theorem sim_c {v : V} {d : D} (h : ∀ F, Rep K F v d) : SimE B K (tC v) (aC d) := fun σ s F C R H Q P hs hS a k => k d v F C H (Ex.refl F) hS (h F) a
theorem ae_int {i j} : AE B X (.Constant (.int i) j pos) (tC (.int i)) (aC (.int i)) := ⟨pe_int, sim_c fun _ => .int i⟩
theorem ae_bl {b j} : AE B X (.Constant (.bool b) j pos) (tC (.bl b)) (aC (.bl b)) := ⟨pe_bl, sim_c fun _ => .bl b⟩
theorem ae_non {j} : AE B X (.Constant .none j pos) (tC .non) (aC .non) := ⟨pe_non, sim_c fun _ => .non⟩
theorem ae_str {x j} : AE B X (.Constant (.str x) j pos) (tC (.str x)) (aC (.str x)) := ⟨pe_str, sim_c fun _ => .str x⟩
theorem ae_gint {x : Str} {i : Int} (h : ∃ u, X.mg x = some u ∧ RelV (.int i) u) (hg : Gl X x := by rfl) (hd : (x == ("__debug__" : Str)) = false := by decide) : AE B X (.Name x pos) (tC (.int i)) (aC (.int i)) :=
  let ⟨_, h1, h2⟩ := h
  ⟨pe_glob hg h1 h2 hd, sim_c fun _ => .int i⟩
def aOp (r : D → D → AH → (D → AH → Prop) → Prop) (a b : AE') : AE' := fun s C P => a s C fun x C1 => b s C1 fun y C2 => r x y C2 P
def aUn (r : D → AH → (D → AH → Prop) → Prop) (a : AE') : AE' := fun s C P => a s C fun x C1 => r x C1 P
theorem sim_op {r : R2} {ar} {ta tb : TE} {a b : AE'} (hr : SimR2 B K r ar) (ha : SimE B K ta a) (hb : SimE B K tb b) : SimE B K (tOp r ta tb) (aOp ar a b) := by
  intro σ s F C R H Q P hs hS h k
  refine ha σ s F C R H _ _ hs hS h fun x v F1 C1 H1 e1 S1 r1 h1 => ?_
  refine hb σ s F1 C1 R H1 _ _ (hs.mono e1) S1 h1 fun y w F2 C2 H2 e2 S2 r2 h2 => ?_
  exact hr v w x y F2 C2 R H2 Q P S2 (r1.mono e2) r2 h2 fun d u F3 C3 H3 e3 S3 r3 h3 => k d u F3 C3 H3 ((e1.trans e2).trans e3) S3 r3 h3
theorem sim_un {r : V → Hp → VK → Prop} {ar} {ta : TE} {a : AE'} (hr : SimR1 B K r ar) (ha : SimE B K ta a) : SimE B K (tUn r ta) (aUn ar a) := by
  intro σ s F C R H Q P hs hS h k
  refine ha σ s F C R H _ _ hs hS h fun x v F1 C1 H1 e1 S1 r1 h1 => ?_
  exact hr v x F1 C1 R H1 Q P S1 r1 h1 fun d u F3 C3 H3 e3 S3 r3 h3 => k d u F3 C3 H3 (e1.trans e3) S3 r3 h3
/-- an operation f by values -/
structure AOp (B : Bs) (X : Cx) (f : Value → Value → Sem Value) (r : R2) (a : D → D → AH → (D → AH → Prop) → Prop) : Prop where
  op : OpR X f r
  sim : SimR2 B X.K r a
theorem ae_op {o : Operator} {r ar} {a b : Expr} {ta tb : TE} {aa ab : AE'} (ho : AOp B X (binaryOp o) r ar) (ha : AE B X a ta aa) (hb : AE B X b tb ab) : AE B X (.BinOp a o b pos) (tOp r ta tb) (aOp ar aa ab) := ⟨pe_op ho.op ha.pe hb.pe, sim_op ho.sim ha.sim hb.sim⟩
theorem ae_cmp {o : CmpOp} {r ar} {a b : Expr} {ta tb : TE} {aa ab : AE'} (ho : AOp B X (compareOp o) r ar) (ha : AE B X a ta aa) (hb : AE B X b tb ab) (hm : behindInMarks o b = false := by first | exact nomark _ | with_unfolding_all rfl) : AE B X (.Compare a [o] [b] pos) (tOp r ta tb) (aOp ar aa ab) :=
  ⟨pe_cmpR ho.op ha.pe hb.pe hm, sim_op ho.sim ha.sim hb.sim⟩
theorem SimR2.or {r r' : R2} {ar ar'} (h : SimR2 B K r ar) (h' : SimR2 B K r' ar') : SimR2 B K (fun x y H Q => r x y H Q ∨ r' x y H Q) (fun x y C P => ar x y C P ∨ ar' x y C P) := by
  intro v w d e F C R H Q P hS r1 r2 h0 k
  rcases h0 with q | q
  · exact .inl (h v w d e F C R H Q P hS r1 r2 q k)
  · exact .inr (h' v w d e F C R H Q P hS r1 r2 q k)
theorem SimR2.imp {r : R2} {ar ar' : D → D → AH → (D → AH → Prop) → Prop} (h : SimR2 B K r ar) (i : ∀ d e C P, ar' d e C P → ar d e C P) : SimR2 B K r ar' := fun v w d e F C R H Q P hS r1 r2 h0 k => h v w d e F C R H Q P hS r1 r2 (i d e C P h0) k
/-- ints in, a flat value out -/
def aI (c : Int → Int → Prop) (g : Int → Int → D) : D → D → AH → (D → AH → Prop) → Prop := fun x y C P => match x, y with
  | .int i, .int j => c i j ∧ P (g i j) C
  | _, _ => False
theorem simI {c : Int → Int → Prop} {g : Int → Int → V} {g' : Int → Int → D} (hg : ∀ F i j, Rep K F (g i j) (g' i j)) : SimR2 B K (rI c g) (aI c g') := by
  intro v w d e F C R H Q P hS r1 r2 h k
  unfold aI at h
  split at h
  · cases r1; cases r2
    exact ⟨_, _, rfl, rfl, h.1, k _ _ F C H (Ex.refl F) hS (hg F _ _) h.2⟩
  · exact h.elim
def aI0 (g : Int → Int → D) : D → D → AH → (D → AH → Prop) → Prop := fun x y C P => match x, y with
  | .int i, .int j => P (g i j) C
  | _, _ => False
theorem simI0 {g : Int → Int → V} {g' : Int → Int → D} (hg : ∀ F i j, Rep K F (g i j) (g' i j)) : SimR2 B K (rI0 g) (aI0 g') := by
  intro v w d e F C R H Q P hS r1 r2 h k
  unfold aI0 at h
  split at h
  · cases r1; cases r2
    exact ⟨_, _, rfl, rfl, k _ _ F C H (Ex.refl F) hS (hg F _ _) h⟩
  · exact h.elim
def aSub := aI0 fun i j => .int (i - j)
def aMul := aI CMul fun i j => .int (i * j)
def aDiv := aI CDiv fun i j => .int (i / j)
def aMod := aI (fun _ j => 0 < j) fun i j => .int (i % j)
def aLt := aI0 fun i j => .bl (decide (i < j))
def aLe := aI0 fun i j => .bl (decide (i ≤ j))
def aGt := aI0 fun i j => .bl (decide (j < i))
def aGe := aI0 fun i j => .bl (decide (j ≤ i))
def aPow := aI CPow fun i j => .int (i ^ j.toNat)
theorem ao_sub : AOp B X (binaryOp .Sub) (rI0 fun i j => .int (i - j)) aSub := ⟨op_sub, simI0 fun _ _ _ => .int _⟩
theorem ao_mul : AOp B X (binaryOp .Mult) (rI CMul fun i j => .int (i * j)) aMul := ⟨op_mul, simI fun _ _ _ => .int _⟩
theorem ao_div : AOp B X (binaryOp .FloorDiv) (rI CDiv fun i j => .int (i / j)) aDiv := ⟨op_fdiv, simI fun _ _ _ => .int _⟩
theorem ao_mod : AOp B X (binaryOp .Mod) (rI (fun _ j => 0 < j) fun i j => .int (i % j)) aMod := ⟨op_mod, simI fun _ _ _ => .int _⟩
theorem ao_pow : AOp B X (binaryOp .Pow) (rI CPow fun i j => .int (i ^ j.toNat)) aPow := ⟨op_pow, simI fun _ _ _ => .int _⟩
theorem ao_lt : AOp B X (compareOp .Lt) (rI0 fun i j => .bl (decide (i < j))) aLt := ⟨op_lt, simI0 fun _ _ _ => .bl _⟩
theorem ao_le : AOp B X (compareOp .LtE) (rI0 fun i j => .bl (decide (i ≤ j))) aLe := ⟨op_le, simI0 fun _ _ _ => .bl _⟩
theorem ao_gt : AOp B X (compareOp .Gt) (rI0 fun i j => .bl (decide (j < i))) aGt := ⟨op_gt, simI0 fun _ _ _ => .bl _⟩
theorem ao_ge : AOp B X (compareOp .GtE) (rI0 fun i j => .bl (decide (j ≤ i))) aGe := ⟨op_ge, simI0 fun _ _ _ => .bl _⟩
def asL (C : AH) : D → Option (List D)
  | .lst ds => some ds
  | .ce p => match C p with | some (.lst ds) => some ds | _ => none
  | _ => none
def asLr (C : AH) : D → Option (List D)
  | .scr ns => some (ns.map D.int)
  | d => asL C d
def asT : D → Option (List D)
  | .tup ds => some ds
  | _ => none
section
variable {F : Hp} {C : AH} {R H : Hp} {v : V} {d : D} {ds : List D}
theorem asL_ok (hS : Sat B K F C R H) (r : Rep K F v d) (h : asL C d = some ds) : ∃ a xs, v = .ref a ∧ H a = some (.lst xs) ∧ RepL K F xs ds := by
  cases r with
  | lst e q => cases h; exact ⟨_, _, rfl, hS.ex _ _ e, q⟩
  | ce p =>
    simp only [asL] at h
    split at h
    · rename_i e
      cases h
      obtain ⟨_, o, h1, h2⟩ := hS.cell p _ e
      cases h2 with
      | lst q => exact ⟨p, _, rfl, h1, q⟩
    · cases h
  | _ => cases h
theorem asLr_ok (hS : Sat B K F C R H) (r : Rep K F v d) (h : asLr C d = some ds) : ∃ a xs, v = .ref a ∧ SqL K H a xs ∧ RepL K F xs ds := by
  cases d with
  | scr ns =>
    cases r with
    | scr e => cases h; exact ⟨_, _, rfl, hS.ex.l e, .ints ns⟩
  | _ =>
    obtain ⟨a, xs, h1, h2, h3⟩ := asL_ok hS r (show asL C _ = some ds from h)
    exact ⟨a, xs, h1, SqL.of h2, h3⟩
theorem asT_ok (hS : Sat B K F C R H) (r : Rep K F v d) (h : asT d = some ds) : ∃ a xs, v = .ref a ∧ Rd H a (.tup xs) ∧ RepL K F xs ds := by
  cases r with
  | tup e q => cases h; exact ⟨_, _, rfl, rdUp e.1 hS.ex, q⟩
  | _ => cases h
end
/-- the order matters: what stands ahead is tried first -/
def aAdd : D → D → AH → (D → AH → Prop) → Prop := fun x y C P => match x, y with
  | .int i, .int j => P (.int (i + j)) C
  | .str i, .str j => i.length + j.length ≤ sizeLine ∧ P (.str (i ++ j)) C
  | .tup xs, .tup ys => xs.length + ys.length ≤ sizeLine ∧ P (.tup (xs ++ ys)) C
  | x, y => ∃ xs ys, asL C x = some xs ∧ asL C y = some ys ∧ xs.length + ys.length ≤ sizeLine ∧ P (.lst (xs ++ ys)) C
def rAddA (K : PySem.W.Frag) : R2 := fun x y H Q => (rI0 (fun i j => .int (i + j)) x y H Q ∨ (∃ i j, x = .str i ∧ y = .str j ∧ i.length + j.length ≤ sizeLine ∧ Q (.str (i ++ j)) H)) ∨ rCatTN K x y H Q ∨ rCat x y H Q
theorem sim_add : SimR2 B K (rAddA K) aAdd := by
  intro v w d e F C R H Q P hS r1 r2 h k
  unfold aAdd at h
  split at h
  · cases r1; cases r2
    exact .inl (.inl ⟨_, _, rfl, rfl, k _ _ F C H (Ex.refl F) hS (.int _) h⟩)
  · cases r1; cases r2
    exact .inl (.inr ⟨_, _, rfl, rfl, h.1, k _ _ F C H (Ex.refl F) hS (.str _) h.2⟩)
  · cases r1 with
    | @tup a xs us h1 q1 =>
      cases r2 with
      | @tup b ys ws h2 q2 =>
        refine .inr (.inl ⟨a, b, xs, ys, rfl, rfl, h1.sq hS.ex, h2.sq hS.ex, by rw [q1.length, q2.length]; exact h.1, fun z => ?_, fun _ z => ?_, fun _ _ p ob hob hp => ?_⟩)
        · subst z
          cases q1
          exact k _ _ F C H (Ex.refl F) hS (.tup h2 q2) h.2
        · subst z
          cases q2
          have := h.2
          rw [List.append_nil] at this
          exact k _ _ F C H (Ex.refl F) hS (.tup h1 q1) this
        · have e := Ex.new (o := .frz ob (.tup (xs ++ ys))) (hS.freeF hp)
          exact k _ _ _ C _ e (hS.newF hp _) (.tup (.frz hob upd_same) ((q1.append q2).mono e)) h.2
  · obtain ⟨xs', ys', h1, h2, hl, h3⟩ := h
    obtain ⟨a, xs, e1, ha, q1⟩ := asL_ok hS r1 h1
    obtain ⟨b, ys, e2, hb, q2⟩ := asL_ok hS r2 h2
    refine .inr (.inr ⟨a, b, xs, ys, e1, e2, ha, hb, by rw [q1.length, q2.length]; exact hl, fun p hp => ?_⟩)
    have e := Ex.new (o := .lst (xs ++ ys)) (hS.freeF hp)
    exact k _ _ _ C _ e (hS.newF hp _) (.lst upd_same ((q1.append q2).mono e)) h3
theorem ao_add (hK : X.K = K := by rfl) : AOp B X (binaryOp .Add) (rAddA K) aAdd := by
  subst hK
  exact ⟨(op_add.or op_add_str).or (op_catTN.or op_cat), sim_add⟩
end
end AL
namespace AL
open PySem PySem.Spec L2
variable {B : Bs}
section
variable {X : Cx} {pos : Pos} {K : PySem.W.Frag}
mutual
/-- the tree as the library's data (none: a cell within it) -/
def D.pd : D → Option PyData
  | .non => some .none
  | .bl b => some (.bool b)
  | .int i => some (.int i)
  | .str x => some (.str x)
  | .lst ds => (pdL ds).map .list
  | .tup ds => (pdL ds).map .tuple
  | .scr ns => some (.list (ns.map .int))
  | _ => none
def pdL : List D → Option (List PyData)
  | [] => some []
  | d :: ds => match D.pd d, pdL ds with | some x, some xs => some (x :: xs) | _, _ => none
end
def pdC (C : AH) : D → Option PyData
  | .ce p => match C p with | some (.lst ds) => (pdL ds).map .list | _ => none
  | d => d.pd
mutual
theorem Rep.dp {F H : Hp} (e : Ex F H) : ∀ {d : D} {v : V} {x : PyData}, Rep K F v d → d.pd = some x → Dp K H v x
  | .non, _, _, r, h => by cases r; cases h; exact .non
  | .bl b, _, _, r, h => by cases r; cases h; exact .bl b
  | .int i, _, _, r, h => by cases r; cases h; exact .int i
  | .str x, _, _, r, h => by cases r; cases h; exact .str x
  | .lst ds, _, _, r, h => by
    cases r with
    | lst h1 h2 =>
      unfold D.pd at h
      cases q : pdL ds with
      | none => rw [q] at h; cases h
      | some xs => rw [q] at h; cases h; exact .lst (SqL.of (e _ _ h1)) (RepL.dp e h2 q)
  | .tup ds, _, _, r, h => by
    cases r with
    | tup h1 h2 =>
      unfold D.pd at h
      cases q : pdL ds with
      | none => rw [q] at h; cases h
      | some xs => rw [q] at h; cases h; exact .tup (h1.sq e) (RepL.dp e h2 q)
  | .scr ns, _, _, r, h => by
    cases r with
    | scr h1 => 
      cases h
      refine .lst (e.l h1) ?_
      clear h1
      induction ns with
      | nil => exact .nil
      | cons n ns ih => exact .cons (.int n) ih
  | .dk _, _, _, _, h => by unfold D.pd at h; cases h
  | .ce _, _, _, _, h => by unfold D.pd at h; cases h
theorem RepL.dp {F H : Hp} (e : Ex F H) : ∀ {ds : List D} {vs : List V} {xs : List PyData}, RepL K F vs ds → pdL ds = some xs → DpAll K H vs xs
  | [], _, _, r, h => by cases r; cases h; exact .nil
  | d :: ds, _, _, r, h => by
    cases r with
    | cons r1 r2 =>
      unfold pdL at h
      split at h
      · rename_i q1 q2
        cases h
        exact .cons (Rep.dp e r1 q1) (RepL.dp e r2 q2)
      · cases h
end
theorem pdC_ok {F : Hp} {C : AH} {R H : Hp} {v : V} {d : D} {x : PyData} (hS : Sat B K F C R H) (r : Rep K F v d) (h : pdC C d = some x) : Dp K H v x := by
  cases d with
  | ce p =>
    cases r
    simp only [pdC] at h
    split at h
    · rename_i ds e
      cases q : pdL ds with
      | none => rw [q] at h; cases h
      | some xs =>
        rw [q] at h; cases h
        obtain ⟨_, o, h1, h2⟩ := hS.cell p _ e
        cases h2 with
        | lst h3 => exact .lst (SqL.of h1) (RepL.dp hS.ex h3 q)
    · cases h
  | _ => exact Rep.dp hS.ex r h
/-- flat values, == by itself -/
def eqS : D → D → Option Bool
  | .non, .non => some true
  | .non, .int _ => some false
  | .int _, .non => some false
  | .non, .bl _ => some false
  | .bl _, .non => some false
  | .non, .str _ => some false
  | .str _, .non => some false
  | .int i, .int j => some (decide (i = j))
  | .bl i, .bl j => some (decide (i = j))
  | .str i, .str j => some (decide (i = j))
  | .int _, .str _ => some false
  | .str _, .int _ => some false
  | .bl _, .str _ => some false
  | .str _, .bl _ => some false
  | _, _ => none
theorem eqS_ok {F : Hp} {v w : V} {d e : D} {b : Bool} (r1 : Rep K F v d) (r2 : Rep K F w e) (h : eqS d e = some b) : scal v w = true ∧ decide (v = w) = b := by
  unfold eqS at h
  split at h <;> first | (cases h; done) | (cases r1; cases r2; cases h; refine ⟨rfl, ?_⟩; first | rfl | (apply Bool.eq_iff_iff.mpr; simp; done))
def aEqN (neg : Bool) : D → D → AH → (D → AH → Prop) → Prop := fun x y C P => match eqS x y with
  | some b => P (.bl (if neg then !b else b)) C
  | none => ∃ d e, pdC C x = some d ∧ pdC C y = some e ∧ SeqAt.shaped d = true ∧ SeqAt.shaped e = true ∧ P (.bl (if neg then !PyData.eqv d e else PyData.eqv d e)) C
def aEq := aEqN false
def aNe := aEqN true
theorem sim_eq : SimR2 B K (fun x y H Q => rEq x y H Q ∨ rEqD K x y H Q) aEq := by
  intro v w d e F C R H Q P hS r1 r2 h k
  unfold aEq aEqN at h
  split at h
  · rename_i b q
    obtain ⟨h1, h2⟩ := eqS_ok r1 r2 q
    exact .inl ⟨h1, k _ _ F C H (Ex.refl F) hS (by rw [h2]; exact .bl b) h⟩
  · obtain ⟨d', e', h1, h2, s1, s2, h3⟩ := h
    exact .inr ⟨d', e', pdC_ok hS r1 h1, pdC_ok hS r2 h2, s1, s2, k _ _ F C H (Ex.refl F) hS (.bl _) h3⟩
theorem sim_ne : SimR2 B K (fun x y H Q => rNe x y H Q ∨ rNeD K x y H Q) aNe := by
  intro v w d e F C R H Q P hS r1 r2 h k
  unfold aNe aEqN at h
  split at h
  · rename_i b q
    obtain ⟨h1, h2⟩ := eqS_ok r1 r2 q
    exact .inl ⟨h1, k _ _ F C H (Ex.refl F) hS (by rw [h2]; exact .bl _) h⟩
  · obtain ⟨d', e', h1, h2, s1, s2, h3⟩ := h
    exact .inr ⟨d', e', pdC_ok hS r1 h1, pdC_ok hS r2 h2, s1, s2, k _ _ F C H (Ex.refl F) hS (.bl _) h3⟩
theorem ao_eq (hu : X.A.units + 64 < cLine) (hK : X.K = K := by rfl) : AOp B X (compareOp .Eq) (fun x y H Q => rEq x y H Q ∨ rEqD K x y H Q) aEq := by
  subst hK
  exact ⟨op_eq.or (op_eqD hu), sim_eq⟩
theorem ao_ne (hu : X.A.units + 64 < cLine) (hK : X.K = K := by rfl) : AOp B X (compareOp .NotEq) (fun x y H Q => rNe x y H Q ∨ rNeD K x y H Q) aNe := by
  subst hK
  exact ⟨op_ne.or (op_neD hu), sim_ne⟩
/-- is None -/
def isNon : D → Bool
  | .non => true
  | _ => false
def aIsN : D → D → AH → (D → AH → Prop) → Prop := fun x y C P => isNon y = true ∧ P (.bl (isNon x)) C
def aNotN : D → D → AH → (D → AH → Prop) → Prop := fun x y C P => isNon y = true ∧ P (.bl (!isNon x)) C
def truth (C : AH) : D → Option Bool
  | .non => some false
  | .bl b => some b
  | .int i => some (i != 0)
  | .str x => if x.length ≤ sizeLine then some ((x.length : Int) != 0) else none
  | .lst ds => some (!ds.isEmpty)
  | .tup ds => some (!ds.isEmpty)
  | .scr ns => some (!ns.isEmpty)
  | .dk kvs => some (!kvs.isEmpty)
  | .ce p => match C p with | some (.lst ds) => some (!ds.isEmpty) | some (.dk kvs) => some (!kvs.isEmpty) | _ => none
theorem RepL.empty {F : Hp} {vs : List V} {ds : List D} (r : RepL K F vs ds) : (!vs.isEmpty) = !ds.isEmpty := by cases r <;> rfl
theorem RepK.empty {F : Hp} {vs : List (Key × V)} {ds : List (Key × D)} (r : RepK K F vs ds) : (!vs.isEmpty) = !ds.isEmpty := by cases r <;> rfl
theorem truth_ok {F : Hp} {C : AH} {R H : Hp} {v : V} {d : D} {b : Bool} (hS : Sat B K F C R H) (r : Rep K F v d) (h : truth C d = some b) : TruV K v H b := by
  cases r with
  | non => cases h; rfl
  | bl b => cases h; rfl
  | int i => cases h; rfl
  | str x =>
    simp only [truth] at h
    split at h
    · rename_i hz
      cases h
      exact ⟨hz, rfl⟩
    · cases h
  | lst e q => cases h; exact .inl ⟨_, SqL.of (hS.ex _ _ e), q.empty.symm⟩
  | tup e q => cases h; exact .inr (.inl ⟨_, e.sq hS.ex, q.empty.symm⟩)
  | dk e q => cases h; exact .inr (.inr ⟨_, hS.ex _ _ e, q.empty.symm⟩)
  | scr e =>
    cases h
    refine .inl ⟨_, hS.ex.l e, ?_⟩
    rename_i ns
    cases ns <;> rfl
  | ce p =>
    simp only [truth] at h
    split at h
    · rename_i e
      cases h
      obtain ⟨_, o, h1, h2⟩ := hS.cell p _ e
      cases h2 with
      | lst q => exact .inl ⟨_, SqL.of h1, q.empty.symm⟩
    · rename_i e
      cases h
      obtain ⟨_, o, h1, h2⟩ := hS.cell p _ e
      cases h2 with
      | dk q => exact .inr (.inr ⟨_, h1, q.empty.symm⟩)
    · cases h
def aTru (a : AE') : AT' := fun s C P => a s C fun x C1 => match truth C1 x with | some b => P b C1 | none => False
theorem sim_tru {ta : TE} {a : AE'} (ha : SimE B K ta a) : SimT B K (fun σ H Q => ta σ H fun x H' => ∃ k, TruV K x H' k ∧ Q k H') (aTru a) := by
  intro σ s F C R H Q P hs hS h k
  refine ha σ s F C R H _ _ hs hS h fun x v F1 C1 H1 e1 S1 r1 h1 => ?_
  split at h1
  · rename_i b q
    exact ⟨b, truth_ok S1 r1 q, k b F1 C1 H1 e1 S1 h1⟩
  · exact h1.elim
theorem at_tru {e : Expr} {te : TE} {a : AE'} (h : AE B X e te a) (he : ∀ whole, isTrue e X.env whole = (do let v ← whole; standAt e.pos; holding [v] (truthy v)) := by intro _; rfl) (hK : X.K = K := by rfl) :
    AT B X e (fun σ H Q => te σ H fun x H' => ∃ k, TruV K x H' k ∧ Q k H') (aTru a) := by
  subst hK
  exact ⟨pt_truth h.pe he, sim_tru h.sim⟩
/-- a comparison's value as a test -/
def aB (a : AE') : AT' := fun s C P => a s C fun x C1 => match x with | .bl b => P b C1 | _ => False
theorem sim_B {ta : TE} {a : AE'} (ha : SimE B K ta a) : SimT B K (tTest ta) (aB a) := by
  intro σ s F C R H Q P hs hS h k
  refine ha σ s F C R H _ _ hs hS h fun x v F1 C1 H1 e1 S1 r1 h1 => ?_
  split at h1
  · cases r1
    exact ⟨_, rfl, k _ F1 C1 H1 e1 S1 h1⟩
  · exact h1.elim
theorem at_cmp {o : CmpOp} {r ar} {a b : Expr} {ta tb : TE} {aa ab : AE'} (ho : AOp B X (compareOp o) r ar) (ha : AE B X a ta aa) (hb : AE B X b tb ab) (hm : behindInMarks o b = false := by first | exact nomark _ | with_unfolding_all rfl) : AT B X (.Compare a [o] [b] pos) (tTest (tOp r ta tb)) (aB (aOp ar aa ab)) :=
  ⟨pt_cmpR ho.op ha.pe hb.pe hm, sim_B (sim_op ho.sim ha.sim hb.sim)⟩
/-- a < b < c -/
def aChain (r r' : D → D → AH → (D → AH → Prop) → Prop) (a b c : AE') : AE' := fun s C P => a s C fun x C1 => b s C1 fun y C2 => r x y C2 fun z C3 => match z with
  | .bl true => c s C3 fun w C4 => r' y w C4 P
  | .bl false => P (.bl false) C3
  | _ => False
theorem sim_chain {r r' : R2} {ar ar'} {ta tb tc : TE} {a b c : AE'} (hr : SimR2 B K r ar) (hr' : SimR2 B K r' ar') (ha : SimE B K ta a) (hb : SimE B K tb b) (hc : SimE B K tc c) : SimE B K (tChain r r' ta tb tc) (aChain ar ar' a b c) := by
  intro σ s F C R H Q P hs hS h k
  refine ha σ s F C R H _ _ hs hS h fun x v F1 C1 H1 e1 S1 r1 h1 => ?_
  refine hb σ s F1 C1 R H1 _ _ (hs.mono e1) S1 h1 fun y w F2 C2 H2 e2 S2 r2 h2 => ?_
  refine hr v w x y F2 C2 R H2 _ _ S2 (r1.mono e2) r2 h2 fun z u F3 C3 H3 e3 S3 r3 h3 => ?_
  split at h3
  · cases r3
    refine ⟨true, rfl, ?_⟩
    rw [if_pos rfl]
    refine hc σ s F3 C3 R H3 _ _ (hs.mono ((e1.trans e2).trans e3)) S3 h3 fun w' u' F4 C4 H4 e4 S4 r4 h4 => ?_
    exact hr' w u' y w' F4 C4 R H4 Q P S4 (r2.mono (e3.trans e4)) r4 h4 fun d u F5 C5 H5 e5 S5 r5 h5 => k d u F5 C5 H5 ((((e1.trans e2).trans e3).trans e4).trans e5) S5 r5 h5
  · cases r3
    refine ⟨false, rfl, ?_⟩
    rw [if_neg Bool.false_ne_true]
    exact k _ _ F3 C3 H3 ((e1.trans e2).trans e3) S3 (.bl false) h3
  · exact h3.elim
theorem at_chain {o o' : CmpOp} {r r' ar ar'} {a b c : Expr} {ta tb tc : TE} {aa ab ac : AE'} (ho : AOp B X (compareOp o) r ar) (ho' : AOp B X (compareOp o') r' ar') (ha : AE B X a ta aa) (hb : AE B X b tb ab) (hc : AE B X c tc ac)
    (hm : lastMarks [o, o'] [b, c] = false := by first | rfl | with_unfolding_all rfl) : AT B X (.Compare a [o, o'] [b, c] pos) (tTest (tChain r r' ta tb tc)) (aB (aChain ar ar' aa ab ac)) :=
  ⟨pt_chain ho.op ho'.op ha.pe hb.pe hc.pe hm, sim_B (sim_chain ho.sim ho'.sim ha.sim hb.sim hc.sim)⟩
def aAnd (a b : AT') : AT' := fun s C P => a s C fun c C1 => if c = true then b s C1 P else P false C1
def aOr (a b : AT') : AT' := fun s C P => a s C fun c C1 => if c = true then P true C1 else b s C1 P
def aNot (a : AT') : AT' := fun s C P => a s C fun c C1 => P (!c) C1
theorem sim_and {t u : TT} {a b : AT'} (ha : SimT B K t a) (hb : SimT B K u b) : SimT B K (tAnd t u) (aAnd a b) := by
  intro σ s F C R H Q P hs hS h k
  refine ha σ s F C R H _ _ hs hS h fun c F1 C1 H1 e1 S1 h1 => ?_
  cases c with
  | true => exact hb σ s F1 C1 R H1 Q P (hs.mono e1) S1 h1 fun c F2 C2 H2 e2 S2 h2 => k c F2 C2 H2 (e1.trans e2) S2 h2
  | false => exact k false F1 C1 H1 e1 S1 h1
theorem sim_or {t u : TT} {a b : AT'} (ha : SimT B K t a) (hb : SimT B K u b) : SimT B K (tOr t u) (aOr a b) := by
  intro σ s F C R H Q P hs hS h k
  refine ha σ s F C R H _ _ hs hS h fun c F1 C1 H1 e1 S1 h1 => ?_
  cases c with
  | false => exact hb σ s F1 C1 R H1 Q P (hs.mono e1) S1 h1 fun c F2 C2 H2 e2 S2 h2 => k c F2 C2 H2 (e1.trans e2) S2 h2
  | true => exact k true F1 C1 H1 e1 S1 h1
theorem sim_not {t : TT} {a : AT'} (ha : SimT B K t a) : SimT B K (tNot t) (aNot a) := by
  intro σ s F C R H Q P hs hS h k
  exact ha σ s F C R H _ _ hs hS h fun c F1 C1 H1 e1 S1 h1 => k (!c) F1 C1 H1 e1 S1 h1
section
variable {a b : Expr} {t u : TT} {ta tb : TE} {xa xb : AT'} {aa ab : AE'} {rest : List Expr}
theorem aw_and1 (h : AT B X a t xa) : AW B X (.BoolOp .And [a] pos) t xa := ⟨pw_and1 h.pt, h.sim⟩
theorem aw_or1 (h : AT B X a t xa) : AW B X (.BoolOp .Or [a] pos) t xa := ⟨pw_or1 h.pt, h.sim⟩
theorem aw_and (h : AT B X a t xa) (g : AW B X (.BoolOp .And (b :: rest) pos) u xb) : AW B X (.BoolOp .And (a :: b :: rest) pos) (tAnd t u) (aAnd xa xb) := ⟨pw_and h.pt g.pw, sim_and h.sim g.sim⟩
theorem aw_or (h : AT B X a t xa) (g : AW B X (.BoolOp .Or (b :: rest) pos) u xb) : AW B X (.BoolOp .Or (a :: b :: rest) pos) (tOr t u) (aOr xa xb) := ⟨pw_or h.pt g.pw, sim_or h.sim g.sim⟩
theorem aw_t (h : AW B X a t xa) : AT B X a t xa := ⟨h.pw.pt, h.sim⟩
theorem at_not (h : AT B X a t xa) : AT B X (.UnaryOp .Not a pos) (tNot t) (aNot xa) := ⟨pt_not h.pt, sim_not h.sim⟩
/-- as values -/
def aAndV (a b : AE') : AE' := fun s C P => a s C fun x C1 => match truth C1 x with | some true => b s C1 P | some false => P x C1 | none => False
def aOrV (a b : AE') : AE' := fun s C P => a s C fun x C1 => match truth C1 x with | some true => P x C1 | some false => b s C1 P | none => False
def aNotV (a : AE') : AE' := fun s C P => a s C fun x C1 => match truth C1 x with | some b => P (.bl (!b)) C1 | none => False
theorem sim_andV (ha : SimE B K ta aa) (hb : SimE B K tb ab) : SimE B K (tAndT K ta tb) (aAndV aa ab) := by
  intro σ s F C R H Q P hs hS h k
  refine ha σ s F C R H _ _ hs hS h fun x v F1 C1 H1 e1 S1 r1 h1 => ?_
  split at h1
  · rename_i q
    refine ⟨true, truth_ok S1 r1 q, ?_⟩
    rw [if_pos rfl]
    exact hb σ s F1 C1 R H1 Q P (hs.mono e1) S1 h1 fun d u F2 C2 H2 e2 S2 r2 h2 => k d u F2 C2 H2 (e1.trans e2) S2 r2 h2
  · rename_i q
    refine ⟨false, truth_ok S1 r1 q, ?_⟩
    rw [if_neg Bool.false_ne_true]
    exact k x v F1 C1 H1 e1 S1 r1 h1
  · exact h1.elim
theorem sim_notV (ha : SimE B K ta aa) : SimE B K (tNotT K ta) (aNotV aa) := by
  intro σ s F C R H Q P hs hS h k
  refine ha σ s F C R H _ _ hs hS h fun x v F1 C1 H1 e1 S1 r1 h1 => ?_
  split at h1
  · rename_i b q
    exact ⟨b, truth_ok S1 r1 q, k _ _ F1 C1 H1 e1 S1 (.bl _) h1⟩
  · exact h1.elim
theorem ae_one {op} (h : AE B X a ta aa) : AE B X (.BoolOp op [a] pos) ta aa := ⟨pe_one h.pe, h.sim⟩
theorem ae_and (h : AE B X a ta aa) (g : AE B X (.BoolOp .And (b :: rest) pos) tb ab) (hK : X.K = K := by rfl) : AE B X (.BoolOp .And (a :: b :: rest) pos) (tAndT K ta tb) (aAndV aa ab) := by
  subst hK
  exact ⟨pe_andT h.pe g.pe, sim_andV h.sim g.sim⟩
theorem ae_not (h : AE B X a ta aa) (hK : X.K = K := by rfl) : AE B X (.UnaryOp .Not a pos) (tNotT K ta) (aNotV aa) := by
  subst hK
  exact ⟨pe_notT h.pe, sim_notV h.sim⟩
def aIf (t : AT') (a b : AE') : AE' := fun s C P => t s C fun c C1 => if c = true then a s C1 P else b s C1 P
def aNeg : D → AH → (D → AH → Prop) → Prop := fun x C P => match x with | .int i => P (.int (-i)) C | _ => False
theorem ae_neg (h : AE B X a ta aa) : AE B X (.UnaryOp .USub a pos) (tUn (rU fun i => .int (-i)) ta) (aUn aNeg aa) := ⟨pe_un un_neg h.pe, sim_un (by
  intro v d F C R H Q P hS r h0 k
  unfold aNeg at h0
  split at h0
  · cases r; exact ⟨_, rfl, k _ _ F C H (Ex.refl F) hS (.int _) h0⟩
  · exact h0.elim) h.sim⟩
end
def aNil : AA' := fun _ C P => P [] C
def aCons (a : AE') (r : AA') : AA' := fun s C P => a s C fun x C1 => r s C1 fun xs C2 => P (x :: xs) C2
theorem sim_nil : SimA B K 0 tNil aNil := fun σ s F C R H Q P hs hS h k => k [] [] F C H (Ex.refl F) hS .nil rfl h
theorem sim_cons {n : Nat} {ta : TE} {tr : TA} {a : AE'} {r : AA'} (ha : SimE B K ta a) (hr : SimA B K n tr r) : SimA B K (n + 1) (tCons ta tr) (aCons a r) := by
  intro σ s F C R H Q P hs hS h k
  refine ha σ s F C R H _ _ hs hS h fun x v F1 C1 H1 e1 S1 r1 h1 => ?_
  refine hr σ s F1 C1 R H1 _ _ (hs.mono e1) S1 h1 fun xs vs F2 C2 H2 e2 S2 r2 hl h2 => ?_
  exact k (x :: xs) (v :: vs) F2 C2 H2 (e1.trans e2) S2 (.cons (r1.mono e2) r2) (by rw [List.length_cons, hl]) h2
theorem aa_nil : AA B X [] 0 tNil aNil := ⟨pa_nil, sim_nil⟩
theorem aa_cons {e : Expr} {es : List Expr} {n : Nat} {te : TE} {t : TA} {a : AE'} {r : AA'} (h : AE B X e te a) (g : AA B X es n t r) (hs : starEach (e :: es) X.env = (false, eval e X.env) :: starEach es X.env := by rfl) : AA B X (e :: es) (n + 1) (tCons te t) (aCons a r) := ⟨pa_cons h.pe g.pa hs, sim_cons h.sim g.sim⟩
def aTup (a : AA') : AE' := fun s C P => a s C fun ds C1 => ds.length ≤ sizeLine ∧ P (.tup ds) C1
def aLst (a : AA') : AE' := fun s C P => a s C fun ds C1 => ds.length ≤ sizeLine ∧ P (.lst ds) C1
def aLstM (a : AA') : AE' := fun s C P => a s C fun ds C1 => ds.length ≤ sizeLine ∧ ∀ p, C1 p = none → P (.ce p) (put C1 p (.lst ds))
theorem ae_tup {es : List Expr} {n : Nat} {t : TA} {a : AA'} {x1} (h : AA B X es n t a) : AE B X (.Tuple es x1 pos) (tTupN t) (aTup a) := ⟨pe_tupN h.pa, by
  intro σ s F C R H Q P hs hS h0 k
  refine h.sim σ s F C R H _ _ hs hS h0 fun ds vs F1 C1 H1 e1 S1 r1 hl h1 => ⟨by rw [r1.length]; exact h1.1, fun p ob hob hp => ?_⟩
  have e := Ex.new (o := .frz ob (.tup vs)) (S1.freeF hp)
  exact k _ _ _ C1 _ (e1.trans e) (S1.newF hp _) (.tup (.frz hob upd_same) (r1.mono e)) h1.2⟩
theorem ae_lst {es : List Expr} {n : Nat} {t : TA} {a : AA'} (h : AA B X es n t a) : AE B X (.List es pos) (tLst t) (aLst a) := ⟨pe_lst h.pa, by
  intro σ s F C R H Q P hs hS h0 k
  refine h.sim σ s F C R H _ _ hs hS h0 fun ds vs F1 C1 H1 e1 S1 r1 hl h1 => ⟨by rw [r1.length]; exact h1.1, fun p hp => ?_⟩
  have e := Ex.new (o := .lst vs) (S1.freeF hp)
  exact k _ _ _ C1 _ (e1.trans e) (S1.newF hp _) (.lst upd_same (r1.mono e)) h1.2⟩
theorem ae_lstM {es : List Expr} {n : Nat} {t : TA} {a : AA'} (h : AA B X es n t a) : AE B X (.List es pos) (tLst t) (aLstM a) := ⟨pe_lst h.pa, by
  intro σ s F C R H Q P hs hS h0 k
  refine h.sim σ s F C R H _ _ hs hS h0 fun ds vs F1 C1 H1 e1 S1 r1 hl h1 => ⟨by rw [r1.length]; exact h1.1, fun p hp => ?_⟩
  exact k _ _ F1 _ _ e1 (S1.newC hp (.lst r1)) (.ce p) (h1.2 p (S1.freeC hp))⟩
end
end AL
namespace AL
open PySem PySem.Spec L2
variable {B : Bs}
section
variable {X : Cx} {pos : Pos} {K : PySem.W.Frag}
def asS (C : AH) : D → Option (List D)
  | .tup ds => some ds
  | d => asLr C d
def aIx : D → D → AH → (D → AH → Prop) → Prop := fun x y C P => match x, y with
  | .str z, .int i => z.length ≤ sizeLine ∧ (match atI z.cps.toList i with | some c => P (.str ⟨#[c]⟩) C | none => False)
  | x, .int i => (match asS C x with | some ds => (match atI ds i with | some d => P d C | none => False) | none => False)
  | _, _ => False
theorem RepL.atI {F : Hp} {vs : List V} {ds : List D} {i : Int} {d : D} (r : RepL K F vs ds) (h : atI ds i = some d) : ∃ v, L2.atI vs i = some v ∧ Rep K F v d := by
  unfold L2.atI at h ⊢
  rw [r.length]
  cases q : ixN ds.length i with
  | none => rw [q] at h; cases h
  | some j =>
    rw [q] at h
    obtain ⟨v, h1, h2⟩ := r.getD (show ds[j]? = some d from h)
    exact ⟨v, h1, h2⟩
theorem sim_ix : SimR2 B K (rIx K) aIx := by
  intro v w d e F C R H Q P hS r1 r2 h k
  unfold aIx at h
  split at h
  · cases r1; cases r2
    obtain ⟨hz, h⟩ := h
    split at h
    · rename_i c q
      exact .inr (.inr ⟨_, _, c, rfl, rfl, hz, q, k _ _ F C H (Ex.refl F) hS (.str _) h⟩)
    · exact h.elim
  · cases r2
    split at h
    · rename_i ds q
      split at h
      · rename_i d' q2
        cases d with
        | tup us =>
          cases q
          obtain ⟨a, xs, e1, h1, h2⟩ := asT_ok hS r1 rfl
          obtain ⟨v', h3, h4⟩ := h2.atI q2
          exact .inr (.inl ⟨a, xs, _, v', e1, rfl, SqT.of h1, h3, k _ _ F C H (Ex.refl F) hS h4 h⟩)
        | _ =>
          obtain ⟨a, xs, e1, h1, h2⟩ := asLr_ok hS r1 (show asLr C _ = some ds from q)
          obtain ⟨v', h3, h4⟩ := h2.atI q2
          exact .inl ⟨a, xs, _, v', e1, rfl, h1, h3, k _ _ F C H (Ex.refl F) hS h4 h⟩
      · exact h.elim
    · exact h.elim
  · exact h.elim
theorem ae_ix {a b : Expr} {ta tb : TE} {aa ab : AE'} (ha : AE B X a ta aa) (hb : AE B X b tb ab) (hs : PlainIx b := by exact fun _ _ => rfl) (hK : X.K = K := by rfl) : AE B X (.Subscript a b pos) (tOp (rIx K) ta tb) (aOp aIx aa ab) := by
  subst hK
  exact ⟨pe_ix ix_seq ha.pe hb.pe hs, sim_op sim_ix ha.sim hb.sim⟩
abbrev AO' := ASt → AH → (Option Int → AH → Prop) → Prop
def SimO (B : Bs) (K : PySem.W.Frag) (to : TO) (a : AO') : Prop := ∀ (σ : L2.St) (s : ASt) (F : Hp) (C : AH) (R H : Hp) (Q : Option Int → Hp → Prop) (P : Option Int → AH → Prop), Slo K F s σ → Sat B K F C R H → a s C P →
  (∀ o F' C' H', Ex F F' → Sat B K F' C' R H' → P o C' → Q o H') → to σ H Q
structure AO (B : Bs) (X : Cx) (e : Option Expr) (to : TO) (a : AO') : Prop where
  po : PO X e to
  sim : SimO B X.K to a
def aNoPart : AO' := fun _ C P => P none C
def aPart (a : AE') : AO' := fun s C P => a s C fun x C1 => match x with | .int i => P (some i) C1 | _ => False
theorem ao_none : AO B X none tNoPart aNoPart := ⟨po_none, fun σ s F C R H Q P hs hS h k => k none F C H (Ex.refl F) hS h⟩
theorem ao_some {e : Expr} {te : TE} {a : AE'} (h : AE B X e te a) : AO B X (some e) (tPart te) (aPart a) := ⟨po_some h.pe, by
  intro σ s F C R H Q P hs hS h0 k
  refine h.sim σ s F C R H _ _ hs hS h0 fun x v F1 C1 H1 e1 S1 r1 h1 => ?_
  split at h1
  · cases r1
    exact ⟨_, rfl, k _ F1 C1 H1 e1 S1 h1⟩
  · exact h1.elim⟩
def cutD (xs : List D) (lo hi : Option Int) : List D := (xs.drop (HT.sIx xs.length 0 lo)).take (HT.sIx xs.length xs.length hi - HT.sIx xs.length 0 lo)
theorem RepL.cut {F : Hp} {vs : List V} {ds : List D} (r : RepL K F vs ds) (lo hi : Option Int) : RepL K F (cutV vs lo hi) (cutD ds lo hi) := by
  unfold cutV cutD
  rw [r.length]
  exact (r.drop _).take _
def aSl (r : D → Option Int → Option Int → AH → (D → AH → Prop) → Prop) (a : AE') (l h : AO') : AE' := fun s C P => a s C fun x C1 => l s C1 fun i C2 => h s C2 fun j C3 => r x i j C3 P
def SimRS (B : Bs) (K : PySem.W.Frag) (r : V → Option Int → Option Int → Hp → VK → Prop) (a : D → Option Int → Option Int → AH → (D → AH → Prop) → Prop) : Prop := ∀ (v : V) (d : D) (lo hi : Option Int) (F : Hp) (C : AH) (R H : Hp) (Q : VK) (P : D → AH → Prop), Sat B K F C R H → Rep K F v d → a d lo hi C P →
  (∀ d v F' C' H', Ex F F' → Sat B K F' C' R H' → Rep K F' v d → P d C' → Q v H') → r v lo hi H Q
theorem sim_sl {r ar} {ta : TE} {tl th : TO} {a : AE'} {l h : AO'} (hr : SimRS B K r ar) (ha : SimE B K ta a) (hl : SimO B K tl l) (hh : SimO B K th h) : SimE B K (tSl r ta tl th) (aSl ar a l h) := by
  intro σ s F C R H Q P hs hS h0 k
  refine ha σ s F C R H _ _ hs hS h0 fun x v F1 C1 H1 e1 S1 r1 h1 => ?_
  refine hl σ s F1 C1 R H1 _ _ (hs.mono e1) S1 h1 fun i F2 C2 H2 e2 S2 h2 => ?_
  refine hh σ s F2 C2 R H2 _ _ (hs.mono (e1.trans e2)) S2 h2 fun j F3 C3 H3 e3 S3 h3 => ?_
  exact hr v x i j F3 C3 R H3 Q P S3 (r1.mono (e2.trans e3)) h3 fun d u F4 C4 H4 e4 S4 r4 h4 => k d u F4 C4 H4 (((e1.trans e2).trans e3).trans e4) S4 r4 h4
def aCut : D → Option Int → Option Int → AH → (D → AH → Prop) → Prop := fun x lo hi C P => match x with
  | .str z => z.length ≤ sizeLine ∧ P (.str (cutS z lo hi)) C
  | .tup ds => P (.tup (cutD ds lo hi)) C
  | x => (match asLr C x with | some ds => P (.lst (cutD ds lo hi)) C | none => False)
def rCutA (K : PySem.W.Frag) : V → Option Int → Option Int → Hp → VK → Prop := fun x lo hi H Q => (rSlS x lo hi H Q ∨ rSlTN K x lo hi H Q) ∨ rSlL K x lo hi H Q
theorem cutD_all {ds : List D} {lo hi : Option Int} (h : HT.sIx ds.length 0 lo = 0 ∧ HT.sIx ds.length ds.length hi = ds.length) : cutD ds lo hi = ds := by
  unfold cutD
  rw [h.1, h.2, List.drop_zero, Nat.sub_zero, List.take_length]
theorem sim_cut : SimRS B K (rCutA K) aCut := by
  intro v d lo hi F C R H Q P hS r1 h k
  unfold aCut at h
  split at h
  · cases r1
    exact .inl (.inl ⟨_, rfl, h.1, k _ _ F C H (Ex.refl F) hS (.str _) h.2⟩)
  · cases r1 with
    | @tup a xs us h1 q1 =>
      refine .inl (.inr ⟨a, xs, rfl, h1.sq hS.ex, fun z => ?_, fun _ p ob hob hp => ?_⟩)
      · rw [q1.length] at z
        rw [cutD_all z] at h
        exact k _ _ F C H (Ex.refl F) hS (.tup h1 q1) h
      · have e := Ex.new (o := .frz ob (.tup (cutV xs lo hi))) (hS.freeF hp)
        exact k _ _ _ C _ e (hS.newF hp _) (.tup (.frz hob upd_same) ((q1.cut lo hi).mono e)) h
  · split at h
    · rename_i ds q
      obtain ⟨a, xs, e1, h1, h2⟩ := asLr_ok hS r1 q
      refine .inr ⟨a, xs, e1, h1, fun p hp => ?_⟩
      have e := Ex.new (o := .lst (cutV xs lo hi)) (hS.freeF hp)
      exact k _ _ _ C _ e (hS.newF hp _) (.lst upd_same ((h2.cut lo hi).mono e)) h
    · exact h.elim
theorem ae_cut {e : Expr} {lo hi : Option Expr} {te : TE} {tl th : TO} {a : AE'} {l h : AO'} {p2 : Pos} (he : AE B X e te a) (hl : AO B X lo tl l) (hh : AO B X hi th h) (hK : X.K = K := by rfl) : AE B X (.Subscript e (.Slice lo hi none p2) pos) (tSl (rCutA K) te tl th) (aSl aCut a l h) := by
  subst hK
  exact ⟨pe_slice ((sl_str.or sl_tupN).or sl_list) he.pe hl.po hh.po, sim_sl sim_cut he.sim hl.sim hh.sim⟩
/-- xs[::-1], a list -/
def aRev : D → AH → (D → AH → Prop) → Prop := fun x C P => match asLr C x with | some ds => P (.lst ds.reverse) C | none => False
structure ACa (B : Bs) (X : Cx) (f : Value) (r : List V → Hp → VK → Prop) (a : ASp) : Prop where
  op : CallR X f r
  sim : SimRL B X.K r a
def aCall (asp : ASp) (a : AA') : AE' := fun s C P => a s C fun ds C1 => asp ds C1 P
theorem sim_callB {n : Nat} {r : List V → Hp → VK → Prop} {ar : ASp} {ta : TA} {a : AA'} (hr : SimRL B K r ar) (ha : SimA B K n ta a) : SimE B K (tCB r ta) (aCall ar a) := by
  intro σ s F C R H Q P hs hS h k
  refine ha σ s F C R H _ _ hs hS h fun ds vs F1 C1 H1 e1 S1 r1 hl h1 => ?_
  exact hr vs ds F1 C1 R H1 Q P S1 r1 h1 fun d u F3 C3 H3 e3 S3 r3 h3 => k d u F3 C3 H3 (e1.trans e3) S3 r3 h3
section
variable {e : Expr} {es : List Expr} {n : Nat} {t : TA} {a : AA'} {r : List V → Hp → VK → Prop} {ar : ASp} {x : Str} {p : Pos} {id T : String}
theorem ae_callB (hc : ACa B X (.builtin id) r ar) (hm : X.mg x = none) (hv : bootBuiltins x = some (.builtin id)) (ha : AA B X (e :: es) n t a) (hg : Gl X x := by rfl) (hn : x ≠ "__name__" := by decide) (hdb : (x == ("__debug__" : Str)) = false := by decide)
    (he : starEach (e :: es) X.env = (false, eval e X.env) :: starEach es X.env := by rfl) (hpl : (backTo pos (starEach es X.env)).any (·.1) = false := by rfl) : AE B X (.Call (.Name x p) (e :: es) [] pos) (tCB r t) (aCall ar a) :=
  ⟨pe_callB hc.op hg hm hv ha.pa hn hdb he hpl, sim_callB hc.sim ha.sim⟩
theorem ae_callT (hc : ACa B X (.type T) r ar) (hm : X.mg x = none) (hv : bootBuiltins x = some (.type T)) (ha : AA B X (e :: es) n t a) (hg : Gl X x := by rfl) (hn : x ≠ "__name__" := by decide) (hdb : (x == ("__debug__" : Str)) = false := by decide)
    (he : starEach (e :: es) X.env = (false, eval e X.env) :: starEach es X.env := by rfl) (hpl : (backTo pos (starEach es X.env)).any (·.1) = false := by rfl) : AE B X (.Call (.Name x p) (e :: es) [] pos) (tCB r t) (aCall ar a) :=
  ⟨pe_callTy hc.op hg hm hv ha.pa hn hdb he hpl, sim_callB hc.sim ha.sim⟩
end
theorem asS_ok {F : Hp} {C : AH} {R H : Hp} {v : V} {d : D} {ds : List D} (hS : Sat B K F C R H) (r : Rep K F v d) (h : asS C d = some ds) : ∃ a xs, v = .ref a ∧ (SqL K H a xs ∨ SqT K H a xs) ∧ RepL K F xs ds := by
  cases d with
  | tup ws =>
    cases h
    obtain ⟨a, xs, e1, h1, h2⟩ := asT_ok hS r rfl
    exact ⟨a, xs, e1, .inr (SqT.of h1), h2⟩
  | _ =>
    obtain ⟨a, xs, e1, h1, h2⟩ := asLr_ok hS r (show asLr C _ = some ds from h)
    exact ⟨a, xs, e1, .inl h1, h2⟩
def aLen : ASp := fun ds C P => match ds with
  | [.str z] => z.length ≤ sizeLine ∧ P (.int z.length) C
  | [.ce q] => (match C q with | some (.lst us) => P (.int us.length) C | some (.dk us) => P (.int us.length) C | _ => False)
  | [.dk kvs] => P (.int kvs.length) C
  | [d] => (match asS C d with | some us => P (.int us.length) C | none => False)
  | _ => False
def rLenA (K : PySem.W.Frag) : List V → Hp → VK → Prop := fun xs H Q => (∃ x n, xs = [x] ∧ LenV K x H n ∧ Q (.int n) H) ∨ (∃ a kvs, xs = [V.ref a] ∧ H a = some (.dK kvs) ∧ Q (.int kvs.length) H)
theorem RepK.length {F : Hp} : ∀ {vs : List (Key × V)} {ds : List (Key × D)}, RepK K F vs ds → vs.length = ds.length
  | _, _, .nil => rfl
  | _, _, .cons _ t => by rw [List.length_cons, List.length_cons, RepK.length t]
theorem simLen : SimRL B K (rLenA K) aLen := by
  intro vs ds F C R H Q P hS r h k
  unfold aLen at h
  split at h
  · cases r with | cons r1 r2 => cases r2; cases r1; exact .inl ⟨_, _, rfl, ⟨h.1, rfl⟩, k _ _ F C H (Ex.refl F) hS (.int _) h.2⟩
  · cases r with
    | cons r1 r2 =>
      cases r2; cases r1
      split at h
      · rename_i e
        obtain ⟨_, o, h1, h2⟩ := hS.cell _ _ e
        cases h2 with
        | lst q => exact .inl ⟨_, _, rfl, .inl ⟨_, SqL.of h1, q.length.symm⟩, k _ _ F C H (Ex.refl F) hS (.int _) h⟩
      · rename_i e
        obtain ⟨_, o, h1, h2⟩ := hS.cell _ _ e
        cases h2 with
        | dk q => exact .inr ⟨_, _, rfl, h1, by rw [q.length]; exact k _ _ F C H (Ex.refl F) hS (.int _) h⟩
      · exact h.elim
  · cases r with | cons r1 r2 => cases r2; cases r1 with | dk e q => exact .inr ⟨_, _, rfl, hS.ex _ _ e, by rw [q.length]; exact k _ _ F C H (Ex.refl F) hS (.int _) h⟩
  · cases r with
    | cons r1 r2 =>
      cases r2
      split at h
      · rename_i us q
        obtain ⟨a, xs, e1, h1, h2⟩ := asS_ok hS r1 q
        subst e1
        rcases h1 with h1 | h1
        · exact .inl ⟨.ref a, _, rfl, .inl ⟨xs, h1, h2.length.symm⟩, k _ _ F C H (Ex.refl F) hS (.int _) h⟩
        · exact .inl ⟨.ref a, _, rfl, .inr ⟨xs, h1, h2.length.symm⟩, k _ _ F C H (Ex.refl F) hS (.int _) h⟩
      · exact h.elim
  · exact h.elim
theorem ac_len (hK : X.K = K := by rfl) : ACa B X (.builtin "len") (rLenA K) aLen := by
  subst hK
  exact ⟨call_len.or call_lenD, simLen⟩
def aAbs : ASp := fun ds C P => match ds with | [.int i] => P (.int (if i < 0 then -i else i)) C | _ => False
def aMax2 : ASp := fun ds C P => match ds with | [.int i, .int j] => P (.int (if j > i then j else i)) C | _ => False
def aMin2 : ASp := fun ds C P => match ds with | [.int i, .int j] => P (.int (if j < i then j else i)) C | _ => False
def aInt : ASp := fun ds C P => match ds with | [.int i] => P (.int i) C | [.bl b] => P (.int (if b then 1 else 0)) C | _ => False
/-- list(xs), tuple(xs) of a list, a tuple -/
def aListOf : ASp := fun ds C P => match ds with | [d] => (match asS C d with | some us => P (.lst us) C | none => False) | _ => False
def aTupleOf : ASp := fun ds C P => match ds with | [.tup us] => P (.tup us) C | [d] => (match asS C d with | some us => P (.tup us) C | none => False) | _ => False
theorem ac_list (hK : X.K = K := by rfl) : ACa B X (.type "list") (fun xs H Q => ∃ p ys, xs = [.ref p] ∧ (SqL K H p ys ∨ SqT K H p ys) ∧ ∀ l, H l = none → Q (.ref l) (upd H l (.lst ys))) aListOf := by
  subst hK
  exact ⟨call_list_of, by
  intro vs ds F C R H Q P hS r h k
  unfold aListOf at h
  split at h
  · cases r with
    | cons r1 r2 =>
      cases r2
      split at h
      · rename_i us q
        obtain ⟨a, xs, e1, h1, h2⟩ := asS_ok hS r1 q
        refine ⟨a, xs, by rw [e1], h1, fun p hp => ?_⟩
        have e := Ex.new (o := .lst xs) (hS.freeF hp)
        exact k _ _ _ C _ e (hS.newF hp _) (.lst upd_same (h2.mono e)) h
      · exact h.elim
  · exact h.elim⟩
theorem ac_tuple (hK : X.K = K := by rfl) : ACa B X (.type "tuple") (rTupOfN K) aTupleOf := by
  subst hK
  exact ⟨call_tuple_ofN, by
  intro vs ds F C R H Q P hS r h k
  unfold aTupleOf at h
  split at h
  · cases r with
    | cons r1 r2 =>
      cases r2
      cases r1 with
      | tup h1 h2 => exact ⟨_, _, rfl, .inr ⟨h1.sq hS.ex, k _ _ F C H (Ex.refl F) hS (.tup h1 h2) h⟩⟩
  · rename_i d hd
    cases r with
    | cons r1 r2 =>
      cases r2
      split at h
      · rename_i us q
        have q' : asLr C d = some us := by
          cases d <;> first | exact q | exact absurd rfl (hd _)
        obtain ⟨a, xs, e1, h1, h2⟩ := asLr_ok hS r1 q'
        refine ⟨a, xs, by rw [e1], .inl ⟨h1, fun p ob hob hp => ?_⟩⟩
        have e := Ex.new (o := .frz ob (.tup xs)) (hS.freeF hp)
        exact k _ _ _ C _ e (hS.newF hp _) (.tup (.frz hob upd_same) (h2.mono e)) h
      · exact h.elim
  · exact h.elim⟩
/-- all, any, sum of a list -/
def blsD : List D → Option (List Bool)
  | [] => some []
  | .bl b :: ds => (blsD ds).map (b :: ·)
  | _ => none
def intsD : List D → Option (List Int)
  | [] => some []
  | .int b :: ds => (intsD ds).map (b :: ·)
  | _ => none
def strsD : List D → Option (List Str)
  | [] => some []
  | .str b :: ds => (strsD ds).map (b :: ·)
  | _ => none
theorem bls_ok : ∀ {ds : List D} {bs : List Bool}, blsD ds = some bs → ds = bs.map .bl
  | [], _, h => by cases h; rfl
  | .bl b :: ds, bs, h => by
    simp only [blsD] at h
    cases q : blsD ds with
    | none => rw [q] at h; cases h
    | some cs => rw [q] at h; cases h; rw [bls_ok q]; rfl
  | .non :: _, _, h => by cases h
  | .int _ :: _, _, h => by cases h
  | .str _ :: _, _, h => by cases h
  | .lst _ :: _, _, h => by cases h
  | .tup _ :: _, _, h => by cases h
  | .dk _ :: _, _, h => by cases h
  | .scr _ :: _, _, h => by cases h
  | .ce _ :: _, _, h => by cases h
theorem ints_ok : ∀ {ds : List D} {bs : List Int}, intsD ds = some bs → ds = bs.map .int
  | [], _, h => by cases h; rfl
  | .int b :: ds, bs, h => by
    simp only [intsD] at h
    cases q : intsD ds with
    | none => rw [q] at h; cases h
    | some cs => rw [q] at h; cases h; rw [ints_ok q]; rfl
  | .non :: _, _, h => by cases h
  | .bl _ :: _, _, h => by cases h
  | .str _ :: _, _, h => by cases h
  | .lst _ :: _, _, h => by cases h
  | .tup _ :: _, _, h => by cases h
  | .dk _ :: _, _, h => by cases h
  | .scr _ :: _, _, h => by cases h
  | .ce _ :: _, _, h => by cases h
theorem strs_ok : ∀ {ds : List D} {bs : List Str}, strsD ds = some bs → ds = bs.map .str
  | [], _, h => by cases h; rfl
  | .str b :: ds, bs, h => by
    simp only [strsD] at h
    cases q : strsD ds with
    | none => rw [q] at h; cases h
    | some cs => rw [q] at h; cases h; rw [strs_ok q]; rfl
  | .non :: _, _, h => by cases h
  | .bl _ :: _, _, h => by cases h
  | .int _ :: _, _, h => by cases h
  | .lst _ :: _, _, h => by cases h
  | .tup _ :: _, _, h => by cases h
  | .dk _ :: _, _, h => by cases h
  | .scr _ :: _, _, h => by cases h
  | .ce _ :: _, _, h => by cases h
@[simp] theorem bls_map (bs : List Bool) : blsD (bs.map D.bl) = some bs := by
  induction bs with
  | nil => rfl
  | cons b bs ih => simp [blsD, ih]
@[simp] theorem ints_map (bs : List Int) : intsD (bs.map D.int) = some bs := by
  induction bs with
  | nil => rfl
  | cons b bs ih => simp [intsD, ih]
@[simp] theorem strs_map (bs : List Str) : strsD (bs.map D.str) = some bs := by
  induction bs with
  | nil => rfl
  | cons b bs ih => simp [strsD, ih]
def aAll : ASp := fun ds C P => match ds with | [d] => (match (asLr C d).bind blsD with | some bs => P (.bl (bs.all id)) C | none => False) | _ => False
def aAny : ASp := fun ds C P => match ds with | [d] => (match (asLr C d).bind blsD with | some bs => P (.bl (bs.any id)) C | none => False) | _ => False
def aSum : ASp := fun ds C P => match ds with | [d] => (match (asLr C d).bind intsD with | some bs => P (.int bs.sum) C | none => False) | _ => False
theorem ac_all (hc : X.calm = true := by rfl) (hK : X.K = K := by rfl) : ACa B X (.builtin "all") (rAll K) aAll := by
  subst hK
  exact ⟨cr_all hc, by
  intro vs ds F C R H Q P hS r h k
  unfold aAll at h
  split at h
  · cases r with
    | cons r1 r2 =>
      cases r2
      split at h
      · rename_i bs q
        obtain ⟨us, q1, q2⟩ := Option.bind_eq_some_iff.mp q
        obtain ⟨a, xs, e1, h1, h2⟩ := asLr_ok hS r1 q1
        rw [bls_ok q2] at h2
        have e3 := h2.ofBls
        subst e3
        exact ⟨a, bs, by rw [e1], h1, k _ _ F C H (Ex.refl F) hS (.bl _) h⟩
      · exact h.elim
  · exact h.elim⟩
theorem ac_any (hc : X.calm = true := by rfl) (hK : X.K = K := by rfl) : ACa B X (.builtin "any") (rAny K) aAny := by
  subst hK
  exact ⟨cr_any hc, by
  intro vs ds F C R H Q P hS r h k
  unfold aAny at h
  split at h
  · cases r with
    | cons r1 r2 =>
      cases r2
      split at h
      · rename_i bs q
        obtain ⟨us, q1, q2⟩ := Option.bind_eq_some_iff.mp q
        obtain ⟨a, xs, e1, h1, h2⟩ := asLr_ok hS r1 q1
        rw [bls_ok q2] at h2
        have e3 := h2.ofBls
        subst e3
        exact ⟨a, bs, by rw [e1], h1, k _ _ F C H (Ex.refl F) hS (.bl _) h⟩
      · exact h.elim
  · exact h.elim⟩
theorem ac_sum (hc : X.calm = true := by rfl) (hK : X.K = K := by rfl) : ACa B X (.builtin "sum") (rSum K) aSum := by
  subst hK
  exact ⟨cr_sum hc, by
  intro vs ds F C R H Q P hS r h k
  unfold aSum at h
  split at h
  · cases r with
    | cons r1 r2 =>
      cases r2
      split at h
      · rename_i bs q
        obtain ⟨us, q1, q2⟩ := Option.bind_eq_some_iff.mp q
        obtain ⟨a, xs, e1, h1, h2⟩ := asLr_ok hS r1 q1
        rw [ints_ok q2] at h2
        have e3 := h2.ofInts
        subst e3
        exact ⟨a, bs, by rw [e1], h1, k _ _ F C H (Ex.refl F) hS (.int _) h⟩
      · exact h.elim
  · exact h.elim⟩
def kindOf (C : AH) : D → Option String
  | .non => some "NoneType" | .bl _ => some "bool" | .int _ => some "int" | .str _ => some "str" | .lst _ => some "list" | .tup _ => some "tuple" | .dk _ => some "dict" | .scr _ => some "list"
  | .ce p => match C p with | some (.lst _) => some "list" | some (.dk _) => some "dict" | _ => none
theorem kindOf_ok {F : Hp} {C : AH} {R H : Hp} {v : V} {d : D} {t : String} (hS : Sat B K F C R H) (r : Rep K F v d) (h : kindOf C d = some t) : TyX K H v (.type t) := by
  cases r with
  | non => cases h; exact .base .non
  | bl b => cases h; exact .base (.bl b)
  | int i => cases h; exact .base (.int i)
  | str x => cases h; exact .base (.str x)
  | lst e q => cases h; exact .base (.lst (hS.ex _ _ e))
  | tup e q =>
    cases h
    rcases e.1 with e | ⟨o, e⟩
    · exact .base (.tup (hS.ex _ _ e))
    · exact .fTuple (hS.ex _ _ e)
  | dk e q => cases h; exact .base (.dK (hS.ex _ _ e))
  | scr e =>
    cases h
    rcases hS.ex.l e with (e | ⟨o, e⟩) | ⟨o, its, n, e, c, _⟩
    · exact .base (.lst e)
    · exact .base (.frz e)
    · exact .kList e c
  | ce p =>
    simp only [kindOf] at h
    split at h
    · rename_i e; cases h
      obtain ⟨_, o, h1, h2⟩ := hS.cell p _ e
      cases h2; exact .base (.lst h1)
    · rename_i e; cases h
      obtain ⟨_, o, h1, h2⟩ := hS.cell p _ e
      cases h2; exact .base (.dK h1)
    · cases h
def isT (T t : String) : Bool := t == T || (t == "bool" && T == "int")
theorem isT_ok : ∀ t ∈ ["NoneType", "bool", "int", "str", "list", "tuple", "dict"], ∀ T ∈ ["bool", "int", "str", "list", "tuple", "dict"], kitB t T = some (isT T t) := by decide +kernel
theorem kindOf_mem {C : AH} {d : D} {t : String} (h : kindOf C d = some t) : t ∈ ["NoneType", "bool", "int", "str", "list", "tuple", "dict"] := by
  unfold kindOf at h
  split at h <;> first | (cases h; decide) | (split at h <;> first | (cases h; decide) | cases h)
def aIsi (T : String) (a : AE') : AE' := fun s C P => a s C fun x C1 => match kindOf C1 x with | some t => P (.bl (isT T t)) C1 | none => False
theorem ae_isi {e : Expr} {te : TE} {a : AE'} {T : Str} {Tn : String} {p p2 : Pos} (h : AE B X e te a) (hm : X.mg "isinstance" = none) (hmT : X.mg T = none) (hv : bootBuiltins T = some (.type Tn)) (hT : Tn ∈ ["bool", "int", "str", "list", "tuple", "dict"] := by decide)
    (hg : Gl X "isinstance" := by rfl) (hgT : Gl X T := by rfl) (hb : bootBuiltins "isinstance" = some (.builtin "isinstance") := by decide +kernel) (hnT : T ≠ "__name__" := by decide) (hdT : (T == ("__debug__" : Str)) = false := by decide)
    (he : starEach [e, .Name T p2] X.env = (false, eval e X.env) :: starEach [.Name T p2] X.env := by rfl) (hpl : (backTo pos (starEach [.Name T p2] X.env)).any (·.1) = false := by rfl) (h2 : starEach [.Name T p2] X.env = (false, eval (.Name T p2) X.env) :: starEach [] X.env := by rfl) (hK : X.K = K := by rfl) :
    AE B X (.Call (.Name "isinstance" p) [e, .Name T p2] [] pos) (tCB (rIsi K) (tCons te (tCons (tC (.ty Tn)) tNil))) (aIsi Tn a) := by
  subst hK
  exact ⟨pe_callB call_isi hg hm hb (pa_cons h.pe (pa_cons (pe_bltn hgT hmT hv rfl hnT hdT) pa_nil h2) he) (by decide) (by decide) he hpl, by
    intro σ s F C R H Q P hs hS h0 k
    refine h.sim σ s F C R H _ _ hs hS h0 fun x v F1 C1 H1 e1 S1 r1 h1 => ?_
    split at h1
    · rename_i t q
      exact ⟨v, .ty Tn, .type t, .type Tn, isT Tn t, rfl, .ty Tn, kindOf_ok S1 r1 q, kit_ty (isT_ok t (kindOf_mem q) Tn hT), k _ _ F1 C1 H1 e1 S1 (.bl _) h1⟩
    · exact h1.elim⟩
end
end AL
namespace AL
open PySem PySem.Spec L2
variable {B : Bs}
open PyProof.Rows (envOfC)
section
variable {X : Cx} {pos : Pos} {K : PySem.W.Frag}
def spOf (w : Gd) (K : PySem.W.Frag) (n : Nat) (asp : ASp) : Sp := fun vs H Q _ => vs.length = n ∧ ∃ F C R ds P, Sat (Bs.nil w) K F C R H ∧ RepL K F vs ds ∧ asp ds C P ∧ ∀ d v F' C' H', Ex F F' → Sat (Bs.nil w) K F' C' R H' → Rep K F' v d → P d C' → Q v H'
/-- a def's promise, where no guard stands (so that repr may be asked) -/
structure FnG (P : Program) (w : World) (K : PySem.W.Frag) (mg : Str → Option Value) (base : Heap) (k : Nat) (f : Addr) (fd : FuncData) (ps : List Str) (sp : Sp) : Prop where
  len : ∀ vs H Q E, sp vs H Q E → vs.length = ps.length
  run : ∀ (A : Around) (out : List Env) (s : Shared) (H : Hp) (args : Args) (us : List Value) (vs : List V) (Q : VK) (E : XK), Room k A → A.guards = some [] → Env0 P w K mg base A out s H →
    BindsTo s fd args (ps.zip us) → Vals vs us → sp vs H Q E → codeAny (model P w) A (.call (.ref f) args) (CR (L2.CX P w) out P w H s Q E) s
theorem FnG.imp {P : Program} {w : World} {K : PySem.W.Frag} {mg : Str → Option Value} {base : Heap} {k : Nat} {f : Addr} {fd : FuncData} {ps : List Str} {sp sp' : Sp} (G : FnG P w K mg base k f fd ps sp) (h : ∀ vs H Q E, sp' vs H Q E → sp vs H Q E) : FnG P w K mg base k f fd ps sp' :=
  ⟨fun vs H Q E q => G.len vs H Q E (h _ _ _ _ q), fun A out s H args us vs Q E hr hg he hb hv hs => G.run A out s H args us vs Q E hr hg he hb hv (h _ _ _ _ hs)⟩
/-- by its body -/
theorem fnG_of {P : Program} {w : World} {K : PySem.W.Frag} {mg : Str → Option Value} {base : Heap} {x qual : Str} {st : Stmt} {f : Addr} {fd : FuncData} {N ps : List Str} {k : Nat} {sp : Sp} (F : L2.Fun K x qual st f fd) (S : FnScope N ps (defScope st)) (len : ∀ vs H Q E, sp vs H Q E → vs.length = ps.length)
    (hbody : ∀ (cdv : Value) (A : Around) (out : List Env) (s : Shared) (H : Hp) (vs : List V) (Q : VK) (E : XK), Room k (A.deeper (envOfC qual (defScope st) s.heap.objs.size f cdv)) → A.guards = some [] → sp vs H Q E →
      ∃ t, PSs (cxOf (L2.CX P w) P w K mg base N qual (defScope st) f cdv A out s H E) (defBody st) t ∧ t { nx := fun _ H1 => Q .non H1, rt := Q } (start N vs) H) : FnG P w K mg base (k + 1) f fd ps sp := by
  obtain ⟨oc, od, kV, doc, pm, an, cdv, ct, osl, rfl, lk, hcd⟩ := F.ex
  refine ⟨len, fun A out s H args us vs Q E hr hg e0 hb rv hsp => ?_⟩
  have kin := e0.mod.kin.keeps fun b o e => (e0.bs b o e).1
  have nol := e0.mod.nolimit.keeps fun b o e => (e0.bs b o e).1
  have knd : ∀ z ∈ ps.zip us, (defScope st).names.lookup z.1 = some .local ∨ ((defScope st).names.lookup z.1 = some .cell ∧ ((cellsFrom (s.heap.objs.size + 1) (defScope st).names []).lookup z.1).isSome = true) := by
    intro z hz
    obtain ⟨n, v⟩ := z
    exact (S.par n (List.of_mem_zip hz).1).elim .inl fun q => .inr ⟨q, PySem.W.cellsFrom_some _ _ _ (.inl q)⟩
  refine codeAny_call_function hr.depth (kin _ _ lk) rfl S.co S.gen rfl (PySem.W.codeRec_of kin hcd) (hb _ _ _ _ (wpAny_newFunctionEnv_cells S.kind knd fun env he s1 made => ?_))
  subst he
  refine ⟨nol.keeps made.toInCall.keep, codeAny_func ?_⟩
  obtain ⟨t, ht, q0⟩ := hbody cdv A out s H vs Q E (hr.deeper _) hg hsp
  refine wpAny_mono (ht.run [] s1 (start N vs) H _ (inv_start S hr.hd e0 (len _ _ _ _ hsp) rv made) q0) (fun fl s2 z => ?_) fun _ _ z => z
  have done : ∀ {σ2 : L2.St} {H2 : Hp} {v : V} {u : Value}, Inv (cxOf (L2.CX P w) P w K mg base N qual (defScope st) f cdv A out s H E) [] σ2 H2 s2 → RelV v u → Q v H2 → CE out P w H s Q u s2 := fun J r q => ⟨_, _, J.os, J.bare, J.base, J.hok, r, q⟩
  cases fl with
  | next => obtain ⟨σ2, H2, J, q⟩ := z; exact done (v := .non) (u := .none) J rfl q
  | ret u => obtain ⟨v, σ2, H2, J, r, q⟩ := z; exact done J r q
  | brk => obtain ⟨_, _, _, q⟩ := z; exact q.elim
  | cont => obtain ⟨_, _, _, q⟩ := z; exact q.elim
section
variable {k : Nat} {f : Addr} {fd : FuncData} {ps : List Str} {sp : Sp} {E : L2.St → XK} {x : Str} {p : Pos} {e : Expr} {es : List Expr} {t : TA}
theorem run_G {pins : List (Addr × Obj)} {σ : L2.St} {H : Hp} {s : Shared} {Q : VK} {us : List Value} {vs : List V} (G : FnG X.prog X.w X.K X.mg X.base k f fd ps sp) (hr : Room k X.A) (hgd : X.A.guards = some []) (hb : Binds X.K fd ps []) (hx : PassesAt (L2.CX X.prog X.w) X σ (E σ))
    (I : Inv X pins σ H s) (r : Vals vs us) (h : sp vs H Q (E σ)) : wpAny (model X.prog X.w) X.A (call (.ref f) us) (EP X pins σ Q) X.xe s := by
  have hl : us.length = ps.length := r.length.symm.trans (G.len _ _ _ _ h)
  have b := hb s us I.kIn ((congrArg List.length (List.append_nil us)).trans hl)
  rw [List.append_nil] at b
  refine wpAny_call (codeAny_mono (G.run X.A X.stack s H ⟨us, []⟩ us vs Q (E σ) hr hgd I.env0 b r h) fun res s2 z => ?_)
  match res, z with
  | .error e, z => exact hx pins H s e s2 I z
  | .ok (.ret u), z => exact I.after z
  | .ok .next, z => exact False.elim z
  | .ok .brk, z => exact False.elim z
  | .ok .cont, z => exact False.elim z
theorem pe_callG (G : FnG X.prog X.w X.K X.mg X.base k f fd ps sp) (hr : Room k X.A) (hgd : X.A.guards = some []) (hg : Gl X x) (hm : X.mg x = some (.ref f)) (hk : PySem.W.keepIn X.K (.ref f) = true) (hb : Binds X.K fd ps []) (hx : ∀ σ, PassesAt (L2.CX X.prog X.w) X σ (E σ))
    (ha : PA X (e :: es) t) (hdb : (x == ("__debug__" : Str)) = false := by decide) (he : starEach (e :: es) X.env = (false, eval e X.env) :: starEach es X.env := by rfl) (hpl : (backTo pos (starEach es X.env)).any (·.1) = false := by rfl) : PE X (.Call (.Name x p) (e :: es) [] pos) (tCallS sp E t) :=
  ⟨fun pins s σ H Q I h => wpAny_Call_Name_kw (ld_glob I hg hm (PySem.W.callWith_K (h₀ := X.base) I.ok.mod.kin hk (thn (ha.run pos pins s σ H _ I h) fun us s1 ⟨vs, H1, I1, r, q⟩ => ⟨I1.kIn, run_G G hr hgd hb (hx σ) I1 r q⟩) he hpl) hdb)⟩
end
abbrev E0S : L2.St → XK := fun _ _ _ _ => False
theorem passG {X : Cx} : ∀ σ, PassesAt (L2.CX X.prog X.w) X σ (E0S σ) := fun _ _ _ _ _ _ _ h => by
  obtain ⟨_, _, _, _, _, _, _, _, _, _, _, _, z⟩ := h
  exact z.elim
structure Cal (P : Program) (w : World) (K : PySem.W.Frag) (mg : Str → Option Value) (base : Heap) (k : Nat) (x : Str) (n : Nat) (asp : ASp) : Prop where
  ex : ∃ (f : Addr) (fd : FuncData) (ps : List Str), FnG P w K mg base k f fd ps (spOf ⟨w, mg⟩ K n asp) ∧ mg x = some (.ref f) ∧ PySem.W.keepIn K (.ref f) = true ∧ Binds K fd ps []
theorem sim_call {w : Gd} (hw : B.g = w) {n : Nat} {asp : ASp} {E : L2.St → XK} {ta : TA} {a : AA'} (ha : SimA B K n ta a) : SimE B K (tCallS (spOf w K n asp) E ta) (aCall asp a) := by
  subst hw
  intro σ s F C R H Q P hs hS h k
  refine ha σ s F C R H _ _ hs hS h fun ds vs F1 C1 H1 e1 S1 r1 hl h1 => ?_
  exact ⟨by rw [r1.length, hl], F1, C1, R, ds, P, S1.nil, r1, h1, fun d v F2 C2 H2 e2 S2 r2 h2 => k d v F2 C2 H2 (e1.trans e2) (S1.back e2 S2) r2 h2⟩
section
variable {e : Expr} {es : List Expr} {n : Nat} {t : TA} {a : AA'} {x : Str} {p : Pos} {asp : ASp} {k j : Nat}
theorem ae_call {g : Gd} (c : Cal X.prog X.w X.K X.mg X.base k x n asp) (hr : Room j X.A) (hgd : X.A.guards = some []) (ha : AA B X (e :: es) n t a) (hw : B.g = g := by first | rfl | assumption) (hX : (⟨X.w, X.mg⟩ : Gd) = g := by rfl) (hk : k ≤ j := by decide) (hg : Gl X x := by rfl)
    (hdb : (x == ("__debug__" : Str)) = false := by decide) (he : starEach (e :: es) X.env = (false, eval e X.env) :: starEach es X.env := by rfl) (hpl : (backTo pos (starEach es X.env)).any (·.1) = false := by rfl) (hK : X.K = K := by rfl) :
    AE B X (.Call (.Name x p) (e :: es) [] pos) (tCallS (spOf g K n asp) E0S t) (aCall asp a) := by
  subst hK
  exact ⟨by
  obtain ⟨f, fd, ps, F, hm, kp, b⟩ := c.ex
  rw [← hX]
  exact pe_callG F (hr.mono hk) hgd hg hm kp b passG ha.pa hdb he hpl, sim_call hw ha.sim⟩
end
/-- a def's body as what the def does -/
def aBody (n : Nat) (b : AS') : ASp := fun ds C P => b ⟨fun _ C' => P .non C', P, fun _ _ => False, fun _ _ => False⟩ (ds.map some ++ List.replicate (n - ds.length) none) C
theorem fnA {P : Program} {w : World} {K : PySem.W.Frag} {mg : Str → Option Value} {base : Heap} {x qual : Str} {st : Stmt} {f : Addr} {fd : FuncData} {N ps : List Str} {k : Nat} {b : AS'} {asp : ASp} (F : L2.Fun K x qual st f fd) (S : FnScope N ps (defScope st))
    (hbody : ∀ (cdv : Value) (A : Around) (outer : List Env) (s : Shared) (H : Hp) (E : XK), Room k (A.deeper (envOfC qual (defScope st) s.heap.objs.size f cdv)) → A.guards = some [] → ∃ ts, ASs (Bs.nil ⟨w, mg⟩) (cxOf (L2.CX P w) P w K mg base N qual (defScope st) f cdv A outer s H E).nox (defBody st) ts b)
    (h : ∀ ds C P, ds.length = ps.length → asp ds C P → aBody N.length b ds C P) : FnG P w K mg base (k + 1) f fd ps (spOf ⟨w, mg⟩ K ps.length asp) := by
  refine fnG_of F S (fun vs H Q E z => z.1) (fun cdv A outer s H vs Q E hr hg z => ?_)
  obtain ⟨ts, hps⟩ := hbody cdv A outer s H E hr hg
  obtain ⟨hl, F1, C, R, ds, P1, hS, hR, ha, hk⟩ := z
  refine ⟨ts, hps.ps.nox, ?_⟩
  have hb := h ds C P1 (by rw [← hR.length, hl]) ha
  refine hps.sim { nx := fun _ H' => Q .non H', rt := Q } ⟨fun _ C' => P1 .non C', P1, fun _ _ => False, fun _ _ => False⟩ _ _ F1 C R H ⟨fun s σ F' C' H' e _ S h => ?_, fun d v F' C' H' e r S h => ?_, fun _ _ _ _ _ _ _ _ h => h.elim, fun _ _ _ _ _ _ _ _ h => h.elim⟩ (Slo.start hR N.length) hS hb
  · exact hk .non .non F' C' H' e S .non h
  · exact hk d v F' C' H' e S r h
theorem calA {P : Program} {w : World} {K : PySem.W.Frag} {mg : Str → Option Value} {base : Heap} {x y qual : Str} {st : Stmt} {f : Addr} {fd : FuncData} {N ps : List Str} {k n : Nat} {b : AS'} {asp : ASp} (F : L2.Fun K x qual st f fd) (S : FnScope N ps (defScope st)) (hn : ps.length = n) (hm : mg y = some (.ref f)) (hb : Binds K fd ps [])
    (hbody : ∀ (cdv : Value) (A : Around) (outer : List Env) (s : Shared) (H : Hp) (E : XK), Room k (A.deeper (envOfC qual (defScope st) s.heap.objs.size f cdv)) → A.guards = some [] → ∃ ts, ASs (Bs.nil ⟨w, mg⟩) (cxOf (L2.CX P w) P w K mg base N qual (defScope st) f cdv A outer s H E).nox (defBody st) ts b)
    (h : ∀ ds C P, ds.length = n → asp ds C P → aBody N.length b ds C P) : Cal P w K mg base (k + 1) y n asp := by
  subst hn
  exact ⟨f, fd, ps, fnA F S hbody h, hm, F.kp, hb⟩
structure AMt (B : Bs) (X : Cx) (id : String) (r : V → List V → Hp → VK → Prop) (a : D → ASp) : Prop where
  op : MtR X id r
  sim : SimRM B X.K r a
def isTy (T : String) (C : AH) (d : D) : Bool := match d with
  | .str _ => T == "str"
  | .lst _ => T == "list"
  | .scr _ => T == "list"
  | .dk _ => T == "dict"
  | .ce p => (match C p with | some (.lst _) => T == "list" | some (.dk _) => T == "dict" | _ => false)
  | _ => false
theorem isTy_ok {F : Hp} {C : AH} {R H : Hp} {v : V} {d : D} {T : String} (hS : Sat B K F C R H) (r : Rep K F v d) (h : isTy T C d = true) : tyV K T v H := by
  cases r with
  | str x => simpa [isTy, tyV] using h
  | lst e q => exact .inl ⟨by simpa [isTy] using h, _, SqL.of (hS.ex _ _ e)⟩
  | scr e => exact .inl ⟨by simpa [isTy] using h, _, hS.ex.l e⟩
  | dk e q => exact .inr (.inr (.inl ⟨by simpa [isTy] using h, .inl ⟨_, hS.ex _ _ e⟩⟩))
  | ce p =>
    simp only [isTy] at h
    split at h
    · rename_i e
      obtain ⟨_, o, h1, h2⟩ := hS.cell p _ e
      cases h2; exact .inl ⟨by simpa using h, _, SqL.of h1⟩
    · rename_i e
      obtain ⟨_, o, h1, h2⟩ := hS.cell p _ e
      cases h2; exact .inr (.inr (.inl ⟨by simpa using h, .inl ⟨_, h1⟩⟩))
    · cases h
  | _ => cases h
def aMeth (T : String) (m : D → ASp) (o : AE') (a : AA') : AE' := fun s C P => o s C fun x C1 => isTy T C1 x = true ∧ a s C1 fun ds C2 => m x ds C2 P
def aMeth0 (T : String) (m : D → ASp) (o : AE') : AE' := fun s C P => o s C fun x C1 => isTy T C1 x = true ∧ m x [] C1 P
section
variable {o e : Expr} {es : List Expr} {n : Nat} {to : TE} {t : TA} {ao : AE'} {a : AA'} {T id : String} {name : Str} {r : V → List V → Hp → VK → Prop} {ar : D → ASp} {apos cpos : Pos}
theorem ae_meth (pa : PlainAttrs T) (slot : Slot T name id) (hty : typeOf (.builtin id) = pure (.type "method_descriptor")) (hm : AMt B X id r ar) (ho : AE B X o to ao) (ha : AA B X (e :: es) n t a)
    (hbase : attributeBase o name X.env (eval o X.env) = eval o X.env := by rfl)
    (hfew : ((backTo cpos (starEach (e :: es) X.env)).all (fun x => !x.1) && (backToKw cpos (keywordEach [] X.env)).all (fun x => x.1.isSome)
      && decide ((e :: es).length + ([] : List Keyword).length + (if ([] : List Keyword).isEmpty then 0 else 1) < 30)) = true := by rfl)
    (hline : (apos.endLine == cpos.line) = true := by rfl) (hs : starEach (e :: es) X.env = (false, eval e X.env) :: starEach es X.env := by rfl) (hplain : (backTo cpos (starEach es X.env)).any (·.1) = false := by rfl) (hK : X.K = K := by rfl) :
    AE B X (.Call (.Attribute o name apos) (e :: es) [] cpos) (tBM K T r to t) (aMeth T ar ao a) := by
  subst hK
  exact ⟨pe_bm pa slot hty hm.op ho.pe ha.pa hbase hfew hline hs hplain, by
  intro σ s F C R H Q P hs hS h0 k
  refine ho.sim σ s F C R H _ _ hs hS h0 fun x v F1 C1 H1 e1 S1 r1 h1 => ⟨isTy_ok S1 r1 h1.1, ?_⟩
  refine ha.sim σ s F1 C1 R H1 _ _ (hs.mono e1) S1 h1.2 fun ds vs F2 C2 H2 e2 S2 r2 hl h2 => ?_
  exact hm.sim v x vs ds F2 C2 R H2 Q P S2 (r1.mono e2) r2 h2 fun d u F3 C3 H3 e3 S3 r3 h3 => k d u F3 C3 H3 ((e1.trans e2).trans e3) S3 r3 h3⟩
end
theorem cellL {F : Hp} {C : AH} {R H : Hp} {p : Addr} {ds : List D} (hS : Sat B K F C R H) (e : C p = some (.lst ds)) : ∃ xs, H p = some (.lst xs) ∧ RepL K F xs ds := by
  obtain ⟨_, o, h1, h2⟩ := hS.cell p _ e
  cases h2
  exact ⟨_, h1, by assumption⟩
def aAppend : D → ASp := fun x ds C P => match x, ds with
  | .ce p, [d] => (match C p with | some (.lst us) => us.length < sizeLine ∧ P .non (put C p (.lst (us ++ [d]))) | _ => False)
  | _, _ => False
theorem am_append : AMt B X "list.append" rAppend aAppend := ⟨fun pins s σ H x xs v us Q I r1 r2 h => mt_append pins s σ H x xs v us Q I r1 r2 h, by
  intro v d vs ds F C R H Q P hS r1 r2 h k
  unfold aAppend at h
  split at h
  · cases r1
    cases r2 with
    | cons r2 r3 =>
      cases r3
      split at h
      · rename_i e
        obtain ⟨xs, h1, h2⟩ := cellL hS e
        exact ⟨_, xs, _, rfl, rfl, h1, by rw [h2.length]; exact h.1, k _ _ F _ _ (Ex.refl F) (hS.mutC e (.lst (h2.append (.cons r2 .nil)))) .non h.2⟩
      · exact h.elim
  · exact h.elim⟩
theorem walk_l {F : Hp} {a : Addr} {ds : List D} {hold : AH → Prop} (h : ∀ F' C' R' H', Ex F F' → Sat B K F' C' R' H' → hold C' → ∃ xs, SqL K H' a xs ∧ RepL K F' xs ds) : Walks B K F ds hold (Itl K a) := by
  refine ⟨fun F' C' R' H' e S hc => ?_, fun F' C' R' H' i e S hc hi => ?_, fun F' C' R' H' i x H'' e S hc hi y => ?_⟩
  · obtain ⟨xs, h1, h2⟩ := h F' C' R' H' e S hc
    exact ⟨xs, h1, by rw [h2.length]; exact Nat.le_refl _⟩
  · obtain ⟨xs, h1, h2⟩ := h F' C' R' H' e S hc
    exact ⟨xs, xs[i]'(by rw [h2.length]; exact hi), h1, by simp⟩
  · obtain ⟨xs, h1, h2⟩ := h F' C' R' H' e S hc
    obtain ⟨e1, y⟩ := y
    subst e1
    obtain ⟨d, h3, h4⟩ := h2.get (y xs h1)
    exact ⟨d, F', h3, Ex.refl F', S, h4⟩
theorem asL_later {F F' : Hp} {C C' : AH} {R R' H H' : Hp} {v : V} {d : D} {ds : List D} (hS : Sat B K F C R H) (r : Rep K F v d) (h : asLr C d = some ds) (e : Ex F F') (S' : Sat B K F' C' R' H') (hc : asLr C' d = some ds) : ∀ a, v = .ref a → ∃ xs, SqL K H' a xs ∧ RepL K F' xs ds := by
  intro a ea
  obtain ⟨b, xs, e1, h1, h2⟩ := asLr_ok S' (r.mono e) hc
  rw [ea] at e1
  cases e1
  exact ⟨xs, h1, h2⟩
/-- for x in a list -/
def aIL (a : AE') : AI' := fun s C P => a s C fun x C1 => match asLr C1 x with | some ds => P ds (fun C' => asLr C' x = some ds) C1 | none => False
theorem ai_list {tg e : Expr} {te : TE} {a : AE'} (h : AE B X e te a) (hK : X.K = K := by rfl) : AI B X tg e (iList K te) (aIL a) := by
  subst hK
  exact ⟨pi_list h.pe, by
  intro σ s F C R H Q P hs hS h0 k
  refine h.sim σ s F C R H _ _ hs hS h0 fun x v F1 C1 H1 e1 S1 r1 h1 => ?_
  split at h1
  · rename_i ds q
    obtain ⟨b, xs, e2, h2, h3⟩ := asLr_ok S1 r1 q
    exact ⟨b, e2, ⟨xs, h2⟩, k ds _ _ F1 C1 H1 e1 S1 (walk_l fun F' C' R' H' e' S' hc => asL_later S1 r1 q e' S' hc b e2) h1⟩
  · exact h1.elim⟩
/-- for x in a tuple -/
def aIT (a : AE') : AI' := fun s C P => a s C fun x C1 => match asT x with | some ds => P ds (fun _ => True) C1 | none => False
theorem ai_tup {tg e : Expr} {te : TE} {a : AE'} (h : AE B X e te a) (hK : X.K = K := by rfl) : AI B X tg e (iTup K te) (aIT a) := by
  subst hK
  exact ⟨pi_tup h.pe, by
  intro σ s F C R H Q P hs hS h0 k
  refine h.sim σ s F C R H _ _ hs hS h0 fun x v F1 C1 H1 e1 S1 r1 h1 => ?_
  split at h1
  · rename_i ds q
    obtain ⟨b, xs, e2, h2, h3⟩ := asT_ok S1 r1 q
    refine ⟨b, e2, ⟨xs, SqT.of h2⟩, k ds _ _ F1 C1 H1 e1 S1 ⟨fun F' C' R' H' e S _ => ?_, fun F' C' R' H' i e S _ hi => ?_, fun F' C' R' H' i x H'' e S _ hi y => ?_⟩ h1⟩
    · obtain ⟨b', xs', e2', h2', h3'⟩ := asT_ok S (r1.mono e) q
      rw [e2] at e2'; cases e2'
      exact ⟨xs', SqT.of h2', by rw [h3'.length]; exact Nat.le_refl _⟩
    · obtain ⟨b', xs', e2', h2', h3'⟩ := asT_ok S (r1.mono e) q
      rw [e2] at e2'; cases e2'
      exact ⟨xs', xs'[i]'(by rw [h3'.length]; exact hi), SqT.of h2', by simp⟩
    · obtain ⟨b', xs', e2', h2', h3'⟩ := asT_ok S (r1.mono e) q
      rw [e2] at e2'; cases e2'
      obtain ⟨e3, y⟩ := y
      subst e3
      obtain ⟨d, h4, h5⟩ := h3'.get (y xs' (SqT.of h2'))
      exact ⟨d, F', h4, Ex.refl F', S, h5⟩
  · exact h1.elim⟩
def rangeD (lo : Int) (n : Nat) : List D := (List.range n).map fun (i : Nat) => D.int (lo + i)
theorem rangeD_get {lo : Int} {n i : Nat} (h : i < n) : (rangeD lo n)[i]? = some (.int (lo + i)) := by
  unfold rangeD
  rw [List.getElem?_map, List.getElem?_range h]
  rfl
theorem rangeD_len (lo : Int) (n : Nat) : (rangeD lo n).length = n := by
  unfold rangeD
  rw [List.length_map, List.length_range]
theorem walk_r {F : Hp} (lo : Int) (n : Nat) : Walks B K F (rangeD lo n) (fun _ => True) (Itr lo n) := by
  refine ⟨fun F' C' R' H' e S _ => ?_, fun F' C' R' H' i e S _ hi => ?_, fun F' C' R' H' i x H'' e S _ hi y => ?_⟩
  · rw [rangeD_len]; exact Nat.le_refl _
  · rw [rangeD_len] at hi; exact hi
  · rw [rangeD_len] at hi
    obtain ⟨e1, y⟩ := y
    subst e1; subst y
    exact ⟨_, F', rangeD_get hi, Ex.refl F', S, .int _⟩
def aIR1 (a : AA') : AI' := fun s C P => a s C fun ds C1 => match ds with | [.int j] => -(2 ^ 62) ≤ j ∧ j < 2 ^ 62 ∧ P (rangeD 0 j.toNat) (fun _ => True) C1 | _ => False
def aIR2 (a : AA') : AI' := fun s C P => a s C fun ds C1 => match ds with | [.int i, .int j] => (-(2 ^ 62) ≤ i ∧ i < 2 ^ 62 ∧ -(2 ^ 62) ≤ j ∧ j < 2 ^ 62) ∧ P (rangeD i (j - i).toNat) (fun _ => True) C1 | _ => False
theorem ai_range1 {tg e : Expr} {n : Nat} {ta : TA} {a : AA'} {p : Pos} (hm : X.mg "range" = none) (h : AA B X [e] n ta a) (hg : Gl X "range" := by rfl) (hs : starEach [e] X.env = [(false, eval e X.env)] := by rfl) : AI B X tg (.Call (.Name "range" p) [e] [] pos) (iRng1 ta) (aIR1 a) := ⟨pi_range1 hg hm h.pa hs, by
  intro σ s F C R H Q P hs hS h0 k
  refine h.sim σ s F C R H _ _ hs hS h0 fun ds vs F1 C1 H1 e1 S1 r1 hl h1 => ?_
  split at h1
  · cases r1 with | cons r1 r2 => cases r2; cases r1; exact ⟨_, rfl, h1.1, h1.2.1, k _ _ _ F1 C1 H1 e1 S1 (walk_r 0 _) h1.2.2⟩
  · exact h1.elim⟩
/-- a text, sign by sign -/
def signs (z : Str) : List D := z.cps.toList.map fun c => D.str ⟨#[c]⟩
def aIS (a : AE') : AI' := fun s C P => a s C fun x C1 => match x with | .str z => P (signs z) (fun _ => True) C1 | _ => False
theorem ai_str {tg e : Expr} {te : TE} {a : AE'} (h : AE B X e te a) : AI B X tg e (iStr te) (aIS a) := ⟨pi_str h.pe, by
  intro σ s F C R H Q P hs hS h0 k
  refine h.sim σ s F C R H _ _ hs hS h0 fun x v F1 C1 H1 e1 S1 r1 h1 => ?_
  split at h1
  · rename_i z
    cases r1
    refine ⟨z, rfl, k _ _ _ F1 C1 H1 e1 S1 ⟨fun F' C' R' H' e S _ => ?_, fun F' C' R' H' i e S _ hi => ?_, fun F' C' R' H' i x H'' e S _ hi y => ?_⟩ h1⟩
    · unfold signs; rw [List.length_map, Array.length_toList]; exact Nat.le_refl _
    · unfold signs at hi; rw [List.length_map, Array.length_toList] at hi; exact hi
    · obtain ⟨e3, c, y1, y2⟩ := y
      subst e3; subst y2
      refine ⟨_, F', ?_, Ex.refl F', S, .str _⟩
      unfold signs
      rw [List.getElem?_map, Array.getElem?_toList, y1]
      rfl
  · exact h1.elim⟩
/-- enumerate of a list -/
def enumD (ds : List D) : List D := (List.range ds.length).map fun (i : Nat) => D.tup [.int i, ds.getD i .non]
theorem enumD_len (ds : List D) : (enumD ds).length = ds.length := by unfold enumD; rw [List.length_map, List.length_range]
theorem enumD_get {ds : List D} {i : Nat} {d : D} (h : ds[i]? = some d) : (enumD ds)[i]? = some (.tup [.int i, d]) := by
  unfold enumD
  have hi := (List.getElem?_eq_some_iff.mp h).1
  rw [List.getElem?_map, List.getElem?_range hi]
  simp [List.getD, h]
def aIE (a : AA') : AI' := fun s C P => a s C fun us C1 => match us with | [x] => (match asLr C1 x with | some ds => P (enumD ds) (fun C' => asLr C' x = some ds) C1 | none => False) | _ => False
/-- zip of two lists -/
def zipD (xs ys : List D) : List D := (xs.zip ys).map fun p => D.tup [p.1, p.2]
def aIZ (a : AA') : AI' := fun s C P => a s C fun us C1 => match us with | [x, y] => (match asLr C1 x, asLr C1 y with | some ds, some es => P (zipD ds es) (fun C' => asLr C' x = some ds ∧ asLr C' y = some es) C1 | _, _ => False) | _ => False
end
end AL
namespace AL
open PySem PySem.Spec L2
variable {B : Bs}
section
variable {X : Cx} {pos : Pos} {K : PySem.W.Frag}
theorem EndsR.mono {F F' R : Hp} {E : AEnds} {D' : Ends} (h : EndsR B K F R E D') (e : Ex F F') : EndsR B K F' R E D' :=
  ⟨fun s σ G C H e1 hs S z => h.nx s σ G C H (e.trans e1) hs S z, fun d v G C H e1 r S z => h.rt d v G C H (e.trans e1) r S z, fun s σ G C H e1 hs S z => h.bk s σ G C H (e.trans e1) hs S z, fun s σ G C H e1 hs S z => h.ct s σ G C H (e.trans e1) hs S z⟩
def aGName (i : Nat) : AG' := fun d s C P => P (s.set i (some d)) C
theorem wipe_get (σ : L2.St) (i : Nat) : ∀ vs : List Nat, (L2.wipe σ vs)[i]? = if i ∈ vs then (if i < σ.length then some none else none) else σ[i]?
  | [] => by simp [L2.wipe]
  | v :: vs => by
    unfold L2.wipe
    by_cases h : i = v
    · subst h
      rw [if_pos List.mem_cons_self]
      by_cases hl : i < σ.length
      · rw [if_pos hl, List.getElem?_set_self (by rw [L2.wipe_length]; exact hl)]
      · rw [if_neg hl, List.getElem?_eq_none (by rw [List.length_set, L2.wipe_length]; omega)]
    · rw [List.getElem?_set_ne (Ne.symm h), wipe_get σ i vs]
      by_cases h2 : i ∈ vs
      · rw [if_pos h2, if_pos (List.mem_cons_of_mem _ h2)]
      · rw [if_neg h2, if_neg (by simp [h, h2])]
theorem wipe_set {σ : L2.St} {j : Nat} {x : Option V} {vs : List Nat} (h : j ∈ vs) : L2.wipe (σ.set j x) vs = L2.wipe σ vs := by
  apply List.ext_getElem?
  intro i
  rw [wipe_get, wipe_get, List.length_set]
  by_cases h2 : i ∈ vs
  · rw [if_pos h2, if_pos h2]
  · rw [if_neg h2, if_neg h2, List.getElem?_set_ne (fun z => h2 (by rw [← z]; exact h))]
theorem wipe_wipe (σ : L2.St) (vs : List Nat) : L2.wipe (L2.wipe σ vs) vs = L2.wipe σ vs := by
  apply List.ext_getElem?
  intro i
  rw [wipe_get, L2.wipe_length]
  by_cases h2 : i ∈ vs
  · rw [if_pos h2, wipe_get, if_pos h2]
  · rw [if_neg h2]
theorem ag_name (i : Nat) {vs : List Nat} {x : Str} (hN : X.N.Nodup) (hi : X.N[i]? = some x := by rfl) (hx : Loc X.env.scope x := by exact Or.inl rfl) (hv : i ∈ vs := by decide) (hf : X.fn x = true ∨ X.env.scope.names.lookup x = some .local := by first | exact .inl rfl | exact .inr rfl) : AG B X (.Name x pos) vs (gName i) (aGName i) :=
  ⟨pg_name hN hi hx hf, fun v d σ s F C R H Q P hs hS r h k => k _ _ F C H (Ex.refl F) (hs.set r i) hS h, fun x σ H Q Q' h k => k _ _ (wipe_set hv) h⟩
abbrev AGs' := List D → ASt → AH → (ASt → AH → Prop) → Prop
def SimGs (B : Bs) (K : PySem.W.Frag) (g : TGs) (a : AGs') : Prop := ∀ (vs : List V) (ds : List D) (σ : L2.St) (s : ASt) (F : Hp) (C : AH) (R H : Hp) (Q : L2.St → Hp → Prop) (P : ASt → AH → Prop), Slo K F s σ → Sat B K F C R H → RepL K F vs ds → a ds s C P →
  (∀ s' σ' F' C' H', Ex F F' → Slo K F' s' σ' → Sat B K F' C' R H' → P s' C' → Q σ' H') → g vs σ H Q
structure AGs (B : Bs) (X : Cx) (es : List Expr) (vs : List Nat) (g : TGs) (a : AGs') : Prop where
  pg : PGs X es g
  sim : SimGs B X.K g a
  inn : ∀ xs σ H (Q Q' : L2.St → Hp → Prop), g xs σ H Q → (∀ σ2 H2, L2.wipe σ2 vs = L2.wipe σ vs → Q σ2 H2 → Q' σ2 H2) → g xs σ H Q'
def aGNil : AGs' := fun ds s C P => match ds with | [] => P s C | _ => False
def aGCons (g : AG') (r : AGs') : AGs' := fun ds s C P => match ds with | d :: ds => g d s C fun s' C' => r ds s' C' P | [] => False
theorem ags_nil {vs : List Nat} : AGs B X [] vs gNil aGNil := ⟨pgs_nil, fun vs ds σ s F C R H Q P hs hS r h k => by
  unfold aGNil at h
  split at h
  · cases r
    exact ⟨rfl, k s σ F C H (Ex.refl F) hs hS h⟩
  · exact h.elim, fun xs σ H Q Q' h k => ⟨h.1, k _ _ rfl h.2⟩⟩
theorem ags_cons {e : Expr} {es : List Expr} {vs : List Nat} {g : TG} {r : TGs} {a : AG'} {b : AGs'} (h1 : AG B X e vs g a) (h2 : AGs B X es vs r b) (hs : (assignEach (e :: es) X.env).map (·.2) = assign e X.env :: (assignEach es X.env).map (·.2) := by rfl) : AGs B X (e :: es) vs (gCons g r) (aGCons a b) :=
  ⟨pgs_cons h1.pg h2.pg hs, fun vs ds σ s F C R H Q P hs hS rr h k => by
    unfold aGCons at h
    split at h
    · cases rr with
      | cons r1 r2 =>
        refine ⟨_, _, rfl, ?_⟩
        refine h1.sim _ _ σ s F C R H _ _ hs hS r1 h fun s1 σ1 F1 C1 H1 e1 hs1 S1 q1 => ?_
        exact h2.sim _ _ σ1 s1 F1 C1 R H1 Q P hs1 S1 (r2.mono e1) q1 fun s2 σ2 F2 C2 H2 e2 => k s2 σ2 F2 C2 H2 (e1.trans e2)
    · exact h.elim, fun xs σ H Q Q' h k => by
    obtain ⟨v, r, e, h⟩ := h
    refine ⟨v, r, e, ?_⟩
    exact h1.inn v σ H _ _ h fun σ1 H1 w1 q => h2.inn r σ1 H1 _ _ q fun σ2 H2 w2 q2 => k σ2 H2 (w2.trans w1) q2⟩
def aGTup (n : Nat) (g : AGs') : AG' := fun d s C P => match d with | .tup ds => ds.length = n ∧ g ds s C P | _ => False
theorem ag_tup {es : List Expr} {k n : Nat} {vs : List Nat} {t : TGs} {a : AGs'} (h : AGs B X es vs t a) (hc : X.calm = true := by rfl) (hn : (assignEach es X.env).length = n := by rfl) (hst : (assignEach es X.env).findIdx? (·.1) = none := by rfl) (hK : X.K = K := by rfl) : AG B X (.Tuple es k pos) vs (gTup K n t) (aGTup n a) := by
  subst hK
  exact ⟨pg_tup hc h.pg hn hst, fun v d σ s F C R H Q P hs hS r h0 kk => by
    unfold aGTup at h0
    split at h0
    · cases r with
      | tup e q =>
        exact ⟨_, _, rfl, e.sq hS.ex, by rw [q.length]; exact h0.1, h.sim _ _ σ s F C R H Q P hs hS q h0.2 kk⟩
    · exact h0.elim, fun x σ H Q Q' h0 kk => by
    obtain ⟨a, xs, e, hq, hl, h0⟩ := h0
    exact ⟨a, xs, e, hq, hl, h.inn xs σ H _ _ h0 kk⟩⟩
/-- xs[i] = .., a list -/
def aGSet (o i : AE') : AG' := fun d s C P => o s C fun x C1 => i s C1 fun y C2 => match x, y with
  | .ce p, .int j => (match C2 p with | some (.lst us) => (match ixN us.length j with | some k => P s (put C2 p (.lst (us.set k d))) | none => False) | _ => False)
  | _, _ => False
theorem sim_set {to ti : TE} {ao ai : AE'} (ho : SimE B K to ao) (hi : SimE B K ti ai) : SimG B K (gSub to ti rSetL) (aGSet ao ai) := by
  intro v d σ s F C R H Q P hs hS r h k
  refine ho σ s F C R H _ _ hs hS h fun x w F1 C1 H1 e1 S1 r1 h1 => ?_
  refine hi σ s F1 C1 R H1 _ _ (hs.mono e1) S1 h1 fun y w2 F2 C2 H2 e2 S2 r2 h2 => ?_
  split at h2
  · cases r1
    cases r2
    split at h2
    · rename_i us e
      split at h2
      · rename_i j q
        obtain ⟨xs, h3, h4⟩ := cellL S2 e
        exact ⟨_, xs, _, j, rfl, rfl, h3, by rw [h4.length]; exact q, k s σ F2 _ _ (e1.trans e2) (hs.mono (e1.trans e2)) (S2.mutC e (.lst (h4.set (r.mono (e1.trans e2)) j))) h2⟩
      · exact h2.elim
    · exact h2.elim
  · exact h2.elim
def aNext : AS' := fun E s C => E.nx s C
def aSeq (a b : AS') : AS' := fun E s C => a { E with nx := b E } s C
theorem sim_next : SimS B K tNext aNext := fun D' E σ s F C R H hE hs hS h => hE.nx s σ F C H (Ex.refl F) hs hS h
theorem sim_seq {t u : TS} {a b : AS'} (ha : SimS B K t a) (hb : SimS B K u b) : SimS B K (tSeq t u) (aSeq a b) := fun D' E σ s F C R H hE hs hS h =>
  ha { D' with nx := u D' } { E with nx := b E } σ s F C R H ⟨fun s σ F' C' H' e hs S z => hb D' E σ s F' C' R H' (hE.mono e) hs S z, hE.rt, hE.bk, hE.ct⟩ hs hS h
theorem ass_nil : ASs B X [] tNext aNext := ⟨pss_nil, sim_next⟩
theorem ass_one {st : Stmt} {t : TS} {a : AS'} (h : AS B X st t a) : ASs B X [st] t a := ⟨pss_one h.ps, h.sim⟩
theorem ass_cons {st : Stmt} {rest : List Stmt} {t u : TS} {a b : AS'} (h : AS B X st t a) (g : ASs B X rest u b) : ASs B X (st :: rest) (tSeq t u) (aSeq a b) := ⟨pss_cons h.ps g.ps, sim_seq h.sim g.sim⟩
/-- a cell that is changed no more, in a slot -/
def aFrz (i : Nat) (a : AS') : AS' := fun E s C => match s[i]? with
  | some (some (.ce p)) => (match C p with | some (.lst ds) => a E (s.set i (some (.lst ds))) (del C p) | some (.dk es) => a E (s.set i (some (.dk es))) (del C p) | _ => False)
  | _ => False
theorem sim_frz {t : TS} {a : AS'} (i : Nat) (h : SimS B K t a) : SimS B K t (aFrz i a) := fun D' E σ s F C R H hE hs hS h0 => by
  unfold aFrz at h0
  split at h0
  · rename_i p e
    split at h0
    · rename_i ds e2
      obtain ⟨hF, o, h1, h2⟩ := hS.cell p _ e2
      have eN := Ex.new (o := o) hF
      refine h D' E σ _ (upd F p o) _ R H (hE.mono eN) ((hs.mono eN).reset e fun v r => ?_) (hS.freeze e2 h1) h0
      cases r
      cases h2 with
      | lst q => exact .lst upd_same (q.mono eN)
    · rename_i ds e2
      obtain ⟨hF, o, h1, h2⟩ := hS.cell p _ e2
      have eN := Ex.new (o := o) hF
      refine h D' E σ _ (upd F p o) _ R H (hE.mono eN) ((hs.mono eN).reset e fun v r => ?_) (hS.freeze e2 h1) h0
      cases r
      cases h2 with
      | dk q => exact .dk upd_same (q.mono eN)
    · exact h0.elim
  · exact h0.elim
theorem ass_frz {sts : List Stmt} {t : TS} {a : AS'} (i : Nat) (h : ASs B X sts t a) : ASs B X sts t (aFrz i a) := ⟨h.ps, sim_frz i h.sim⟩
def aAsg (e : AE') (g : AG') : AS' := fun E s C => e s C fun x C1 => g x s C1 E.nx
theorem sim_asg {te : TE} {g : TG} {a : AE'} {b : AG'} (ha : SimE B K te a) (hb : SimG B K g b) : SimS B K (tAsg te g) (aAsg a b) := fun D' E σ s F C R H hE hs hS h => by
  refine ha σ s F C R H _ _ hs hS h fun x v F1 C1 H1 e1 S1 r1 h1 => ?_
  exact hb v x σ s F1 C1 R H1 _ _ (hs.mono e1) S1 r1 h1 fun s2 σ2 F2 C2 H2 e2 hs2 S2 h2 => hE.nx s2 σ2 F2 C2 H2 (e1.trans e2) hs2 S2 h2
section
variable {e : Expr} {te : TE} {a : AE'}
theorem sim_name (i : Nat) : SimG B K (gName i) (aGName i) := fun v d σ s F C R H Q P hs hS r h k => k _ _ F C H (Ex.refl F) (hs.set r i) hS h
theorem as_set (i : Nat) {x : Str} {pos' : Pos} (hN : X.N.Nodup) (h : AE B X e te a) (hi : X.N[i]? = some x := by rfl) (hx : Loc X.env.scope x := by exact Or.inl rfl) (hs : swapsWith e (some (.Name x pos')) pos.line X.env = pure false := by rfl) (hf : X.fn x = true ∨ X.env.scope.names.lookup x = some .local := by first | exact .inl rfl | exact .inr rfl) :
    AS B X (.Assign [.Name x pos'] e pos) (tAsg te (gName i)) (aAsg a (aGName i)) := ⟨ps_set hN hi hx h.pe hs hf, sim_asg h.sim (sim_name i)⟩
/-- xs[i] = e -/
theorem as_setL {o i : Expr} {to ti : TE} {ao ai : AE'} {p2 : Pos} (h : AE B X e te a) (ho : AE B X o to ao) (hi : AE B X i ti ai) (hs : swapsWithSole [.Subscript o i p2] e pos.line X.env = pure false := by rfl) (hw : swappedStores [.Subscript o i p2] e X.env = pure none := by rfl)
    (h1 : (assignEach [.Subscript o i p2] X.env).map (·.2) = [assign (.Subscript o i p2) X.env] := by rfl)
    (ha : ∀ v, assign (.Subscript o i p2) X.env v = (do
      let ov ← holding [v] (eval o X.env)
      let iv ← holding [v, ov] (eval i X.env)
      standAt p2
      holding [v, ov, iv] (setItem ov iv v)
      release [v, ov, iv] []) := by intro _; rfl) : AS B X (.Assign [.Subscript o i p2] e pos) (tAsg te (gSub to ti rSetL)) (aAsg a (aGSet ao ai)) :=
  ⟨ps_asg h.pe (pg_sub ho.pe hi.pe set_list ha) hs hw h1, sim_asg h.sim (sim_set ho.sim hi.sim)⟩
def aDrop (a : AE') : AS' := fun E s C => a s C fun _ C1 => E.nx s C1
theorem as_expr (h : AE B X e te a) (hs : swapsWith e none pos.line X.env = pure false := by rfl) : AS B X (.Expr e pos) (tDrop te) (aDrop a) := ⟨ps_expr h.pe hs, fun D' E σ s F C R H hE hs hS h0 => by
  exact h.sim σ s F C R H _ _ hs hS h0 fun x v F1 C1 H1 e1 S1 r1 h1 => hE.nx s σ F1 C1 H1 e1 (hs.mono e1) S1 h1⟩
def aRet (a : AE') : AS' := fun E s C => a s C E.rt
theorem as_ret (h : AE B X e te a) : AS B X (.Return (some e) pos) (tRet te) (aRet a) := ⟨ps_ret h.pe, fun D' E σ s F C R H hE hs hS h0 => by
  exact h.sim σ s F C R H _ _ hs hS h0 fun x v F1 C1 H1 e1 S1 r1 h1 => hE.rt x v F1 C1 H1 e1 r1 S1 h1⟩
end
def aRetN : AS' := fun E _ C => E.rt .non C
def aIfS (c : AT') (a b : AS') : AS' := fun E s C => c s C fun t C1 => if t = true then a E s C1 else b E s C1
theorem as_if {c : Expr} {p q : List Stmt} {tc : TT} {t u : TS} {ac : AT'} {a b : AS'} (hc : AT B X c tc ac) (ha : ASs B X p t a) (hb : ASs B X q u b) : AS B X (.If c p q pos) (tIfS tc t u) (aIfS ac a b) := ⟨ps_if hc.pt ha.ps hb.ps, fun D' E σ s F C R H hE hs hS h0 => by
  refine hc.sim σ s F C R H _ _ hs hS h0 fun t F1 C1 H1 e1 S1 h1 => ?_
  cases t with
  | true => exact ha.sim D' E σ s F1 C1 R H1 (hE.mono e1) (hs.mono e1) S1 h1
  | false => exact hb.sim D' E σ s F1 C1 R H1 (hE.mono e1) (hs.mono e1) S1 h1⟩
def aFor (w : AI') (g : AG') (b : AS') : AS' := fun E s C => w s C fun items hold C1 => ∃ W : Nat → ASt → AH → Prop, W 0 s C1 ∧ (∀ i s' C', i ≤ items.length → W i s' C' → hold C') ∧
  (∀ i d s' C', items[i]? = some d → W i s' C' → g d s' C' fun s2 C2 => b { E with nx := W (i + 1), ct := W (i + 1), bk := E.nx } s2 C2) ∧ ∀ s' C', W items.length s' C' → E.nx s' C'
theorem sim_for {wi : TI} {g : TG} {tb : TS} {aw : AI'} {ag : AG'} {ab : AS'} (hi : SimI B K wi aw) (hg : SimG B K g ag) (hb : SimS B K tb ab) : SimS B K (tFor wi g tb) (aFor aw ag ab) := fun D' E σ s F C R H hE hs hS h => by
  refine hi σ s F C R H _ _ hs hS h fun items hold J F1 C1 H1 e1 S1 Wk h1 => ?_
  obtain ⟨W, h0, hh, hstep, hend⟩ := h1
  refine ⟨fun i m σ' H' => m = items.length - i ∧ i ≤ items.length ∧ ∃ s' F' C', Ex F1 F' ∧ Slo K F' s' σ' ∧ Sat B K F' C' R H' ∧ W i s' C', ⟨items.length, by simp, Nat.zero_le _, s, F1, C1, Ex.refl F1, hs.mono e1, S1, h0⟩, ?_⟩
  rintro i m σ' H' ⟨rfl, hi, s', F', C', e', hs', S', w⟩
  by_cases hlt : i < items.length
  · refine .inr ⟨Wk.go F' C' R H' i e' S' (hh i s' C' hi w) hlt, fun σ2 H2 => ∃ s2 F2 C2, Ex F1 F2 ∧ Slo K F2 s2 σ2 ∧ Sat B K F2 C2 R H2 ∧ W (i + 1) s2 C2, fun σ2 H2 z => ⟨items.length - (i + 1), by omega, rfl, hlt, z⟩, fun x H'' y => ?_⟩
    obtain ⟨d, F'', hd, e'', S'', r⟩ := Wk.yld F' C' R H' i x H'' e' S' (hh i s' C' hi w) hlt y
    refine hg x d σ' s' F'' C' R H'' _ _ (hs'.mono e'') S'' r (hstep i d s' C' hd w) fun s2 σ2 F2 C2 H2 e2 hs2 S2 h2 => ?_
    have eA : Ex F1 F2 := (e'.trans e'').trans e2
    refine hb _ { E with nx := W (i + 1), ct := W (i + 1), bk := E.nx } σ2 s2 F2 C2 R H2 ⟨fun s3 σ3 F3 C3 H3 e3 hs3 S3 z => ⟨s3, F3, C3, eA.trans e3, hs3, S3, z⟩, fun d v F3 C3 H3 e3 r3 S3 z => hE.rt d v F3 C3 H3 ((e1.trans eA).trans e3) r3 S3 z,
      fun s3 σ3 F3 C3 H3 e3 hs3 S3 z => hE.nx s3 σ3 F3 C3 H3 ((e1.trans eA).trans e3) hs3 S3 z, fun s3 σ3 F3 C3 H3 e3 hs3 S3 z => ⟨s3, F3, C3, eA.trans e3, hs3, S3, z⟩⟩ hs2 S2 h2
  · have e : i = items.length := by omega
    subst e
    exact .inl ⟨Wk.stop F' C' R H' e' S' (hh _ s' C' (Nat.le_refl _) w), hE.nx s' σ' F' C' H' (e1.trans e') hs' S' (hend s' C' w)⟩
theorem as_for {tg iter : Expr} {body : List Stmt} {wi : TI} {vs : List Nat} {g : TG} {tb : TS} {aw : AI'} {ag : AG'} {ab : AS'} (hi : AI B X tg iter wi aw) (hg : AG B X tg vs g ag) (hb : ASs B X body tb ab) (hp : PassesOwn (model X.prog X.w) X.A X.env X.xe := by exact PassesOwn.never) (hc : X.calm = true := by rfl)
    (hs : ∀ x, foldedSetIterable iter X.env x = pure x := by intro _; rfl) : AS B X (.For tg iter body [] pos) (tFor wi g tb) (aFor aw ag ab) := ⟨ps_for hp hc hi.pi hg.pg hb.ps hs, sim_for hi.sim hg.sim hb.sim⟩
def aWhile (c : AT') (b : AS') : AS' := fun E s C => ∃ W : Nat → ASt → AH → Prop, (∃ m, W m s C) ∧ ∀ m s' C', W m s' C' → c s' C' fun t C1 => if t = true then b { E with nx := fun s2 C2 => ∃ m', m' < m ∧ W m' s2 C2, ct := fun s2 C2 => ∃ m', m' < m ∧ W m' s2 C2, bk := E.nx } s' C1 else E.nx s' C1
theorem sim_while {tc : TT} {tb : TS} {ac : AT'} {ab : AS'} (hc : SimT B K tc ac) (hb : SimS B K tb ab) : SimS B K (tWhile tc tb) (aWhile ac ab) := fun D' E σ s F C R H hE hs hS h => by
  obtain ⟨W, ⟨m0, h0⟩, hstep⟩ := h
  refine ⟨fun m σ' H' => ∃ s' F' C', Ex F F' ∧ Slo K F' s' σ' ∧ Sat B K F' C' R H' ∧ W m s' C', ⟨m0, s, F, C, Ex.refl F, hs, hS, h0⟩, ?_⟩
  rintro m σ' H' ⟨s', F', C', e', hs', S', w⟩
  refine hc σ' s' F' C' R H' _ _ hs' S' (hstep m s' C' w) fun t F1 C1 H1 e1 S1 h1 => ?_
  have eA : Ex F F1 := e'.trans e1
  cases t with
  | true =>
    refine ⟨fun σ2 H2 => ∃ m', m' < m ∧ ∃ s2 F2 C2, Ex F F2 ∧ Slo K F2 s2 σ2 ∧ Sat B K F2 C2 R H2 ∧ W m' s2 C2, fun σ2 H2 z => z, ?_⟩
    refine hb _ { E with nx := fun s2 C2 => ∃ m', m' < m ∧ W m' s2 C2, ct := fun s2 C2 => ∃ m', m' < m ∧ W m' s2 C2, bk := E.nx } σ' s' F1 C1 R H1 ⟨fun s3 σ3 F3 C3 H3 e3 hs3 S3 z => ?_, fun d v F3 C3 H3 e3 r3 S3 z => hE.rt d v F3 C3 H3 (eA.trans e3) r3 S3 z,
      fun s3 σ3 F3 C3 H3 e3 hs3 S3 z => hE.nx s3 σ3 F3 C3 H3 (eA.trans e3) hs3 S3 z, fun s3 σ3 F3 C3 H3 e3 hs3 S3 z => ?_⟩ (hs'.mono e1) S1 h1
    · obtain ⟨m', hm, z⟩ := z
      exact ⟨m', hm, s3, F3, C3, eA.trans e3, hs3, S3, z⟩
    · obtain ⟨m', hm, z⟩ := z
      exact ⟨m', hm, s3, F3, C3, eA.trans e3, hs3, S3, z⟩
  | false => exact hE.nx s' σ' F1 C1 H1 eA (hs'.mono e1) S1 h1
theorem as_while {c : Expr} {body : List Stmt} {tc : TT} {tb : TS} {ac : AT'} {ab : AS'} (hc : AT B X c tc ac) (hb : ASs B X body tb ab) (hp : PassesOwn (model X.prog X.w) X.A X.env X.xe := by exact PassesOwn.never) : AS B X (.While c body [] pos) (tWhile tc tb) (aWhile ac ab) := ⟨ps_while hp hc.pt hb.ps, sim_while hc.sim hb.sim⟩
def aYes : AT' := fun _ C P => P true C
theorem ats_nil : ATs B X [] tYes aYes := ⟨pts_nil, fun σ s F C R H Q P hs hS h k => k true F C H (Ex.refl F) hS h⟩
theorem ats_one {c : Expr} {t : TT} {a : AT'} (h : AT B X c t a) : ATs B X [c] t a := ⟨pts_one h.pt, h.sim⟩
/-- the list as it is made; fin: what becomes of it -/
def aLcW (w : AI') (g : AG') (t : AT') (e : AE') (vs : List Nat) (fin : List D → AH → Prop) : ASt → AH → Prop := fun s C => w s C fun items hold C1 => items.length ≤ sizeLine ∧ ∃ W : Nat → List D → AH → Prop, W 0 [] C1 ∧ (∀ i acc C', i ≤ items.length → W i acc C' → hold C') ∧
  (∀ i d acc C', items[i]? = some d → W i acc C' → g d (wipeA s vs) C' fun s2 C2 => t s2 C2 fun b C3 => if b = true then e s2 C3 fun y C4 => W (i + 1) (acc ++ [y]) C4 else W (i + 1) acc C3) ∧ ∀ acc C', W items.length acc C' → fin acc C'
def aLc (w : AI') (g : AG') (t : AT') (e : AE') (vs : List Nat) : AE' := fun s C P => aLcW w g t e vs (fun acc C' => P (.lst acc) C') s C
def aLcM (w : AI') (g : AG') (t : AT') (e : AE') (vs : List Nat) : AE' := fun s C P => aLcW w g t e vs (fun acc C' => ∀ p, C' p = none → P (.ce p) (put C' p (.lst acc))) s C
theorem lc_sim {wi : TI} {g : TG} {tt : TT} {te : TE} {vs : List Nat} {aw : AI'} {ag : AG'} {at' : AT'} {ae : AE'} {fin : List D → AH → Prop} (hi : SimI B K wi aw) (hg : SimG B K g ag) (hin : GIn vs g) (ht : SimT B K tt at') (he : SimE B K te ae)
    {σ : L2.St} {s : ASt} {F : Hp} {C : AH} {R H : Hp} {Q : VK} (hs : Slo K F s σ) (hS : Sat B K F C R H) (h : aLcW aw ag at' ae vs fin s C)
    (k : ∀ Dl acc accD F' C' H', Ex F F' → R Dl = none → Sat B K F' C' (upd R Dl (.lst acc)) H' → RepL K F' acc accD → fin accD C' → Q (.ref Dl) H') : tLc wi g tt te vs σ H Q := by
  refine hi σ s F C R H _ _ hs hS h fun items hold J F1 C1 H1 e1 S1 Wk h1 => ?_
  obtain ⟨hz, W, h0, hh, hstep, hend⟩ := h1
  intro Dl hD
  have hR := S1.freeR hD
  refine ⟨fun i m H' => m = items.length - i ∧ i ≤ items.length ∧ ∃ F' C' acc accD, Ex F1 F' ∧ Sat B K F' C' (upd R Dl (.lst acc)) H' ∧ RepL K F' acc accD ∧ accD.length ≤ i ∧ W i accD C',
    ⟨items.length, by simp, Nat.zero_le _, F1, C1, [], [], Ex.refl F1, S1.setR (S1.freeF hD) (S1.freeC hD) (S1.freeB hR) _, .nil, Nat.le_refl _, h0⟩, ?_⟩
  rintro i m H' ⟨rfl, hi, F', C', acc, accD, e', S', ra, hl, w⟩
  by_cases hlt : i < items.length
  · refine .inr ⟨Wk.go F' C' _ H' i e' S' (hh i accD C' hi w) hlt, fun H2 => ∃ F2 C2 acc accD, Ex F1 F2 ∧ Sat B K F2 C2 (upd R Dl (.lst acc)) H2 ∧ RepL K F2 acc accD ∧ accD.length ≤ i + 1 ∧ W (i + 1) accD C2, fun H2 z => ⟨items.length - (i + 1), by omega, rfl, hlt, z⟩, fun x H'' y => ?_⟩
    obtain ⟨d, F'', hd, e'', S'', r⟩ := Wk.yld F' C' _ H' i x H'' e' S' (hh i accD C' hi w) hlt y
    refine hin x _ H'' (fun σ2 H2 => tt σ2 H2 fun b H3 => if b = true then te σ2 H3 fun y H4 => ∃ acc, H4 Dl = some (.lst acc) ∧ acc.length < sizeLine ∧ ∃ F2 C2 acc2 accD, Ex F1 F2 ∧ Sat B K F2 C2 (upd R Dl (.lst acc2)) (upd H4 Dl (.lst (acc ++ [y]))) ∧ RepL K F2 acc2 accD ∧ accD.length ≤ i + 1 ∧ W (i + 1) accD C2
      else ∃ F2 C2 acc accD, Ex F1 F2 ∧ Sat B K F2 C2 (upd R Dl (.lst acc)) H3 ∧ RepL K F2 acc accD ∧ accD.length ≤ i + 1 ∧ W (i + 1) accD C2) _ ?_ fun σ2 H2 w2 q => ⟨w2.trans (wipe_wipe σ vs), q⟩
    refine hg x d _ (wipeA s vs) F'' C' _ H'' _ _ ((hs.mono ((e1.trans e').trans e'')).wipe vs) S'' r (hstep i d accD C' hd w) fun s2 σ2 F2 C2 H2 e2 hs2 S2 h2 => ?_
    refine ht σ2 s2 F2 C2 _ H2 _ _ hs2 S2 h2 fun b F3 C3 H3 e3 S3 h3 => ?_
    have eA : Ex F' F3 := (e''.trans e2).trans e3
    cases b with
    | true =>
      refine he σ2 s2 F3 C3 _ H3 _ _ (hs2.mono e3) S3 h3 fun y v F4 C4 H4 e4 S4 r4 h4 => ?_
      obtain ⟨f4, c4, d4⟩ := S4.priv Dl _ upd_same
      refine ⟨acc, d4, ?_, F4, C4, acc ++ [v], accD ++ [y], (e'.trans eA).trans e4, ?_, (ra.mono (eA.trans e4)).append (.cons r4 .nil), by rw [List.length_append]; exact Nat.succ_le_succ hl, h4⟩
      · rw [ra.length]; omega
      · have := S4.setR f4 c4 (S1.freeB hR) (.lst (acc ++ [v]))
        rw [upd_upd] at this
        exact this
    | false => exact ⟨F3, C3, acc, accD, e'.trans eA, S3, ra.mono eA, Nat.le_succ_of_le hl, h3⟩
  · have e : i = items.length := by omega
    subst e
    exact .inl ⟨Wk.stop F' C' _ H' e' S' (hh _ accD C' (Nat.le_refl _) w), k Dl acc accD F' C' H' (e1.trans e') hR S' ra (hend accD C' w)⟩
theorem sim_lc {wi : TI} {g : TG} {tt : TT} {te : TE} {vs : List Nat} {aw : AI'} {ag : AG'} {at' : AT'} {ae : AE'} (hi : SimI B K wi aw) (hg : SimG B K g ag) (hin : GIn vs g) (ht : SimT B K tt at') (he : SimE B K te ae) : SimE B K (tLc wi g tt te vs) (aLc aw ag at' ae vs) := fun σ s F C R H Q P hs hS h k => by
  refine lc_sim hi hg hin ht he hs hS h fun Dl acc accD F' C' H' e1 hR S r h1 => ?_
  have eN := Ex.new (o := .lst acc) (S.priv Dl _ upd_same).1
  exact k _ _ _ C' H' (e1.trans eN) (S.outF hR (hS.freeB hR)) (.lst upd_same (r.mono eN)) h1
theorem sim_lcM {wi : TI} {g : TG} {tt : TT} {te : TE} {vs : List Nat} {aw : AI'} {ag : AG'} {at' : AT'} {ae : AE'} (hi : SimI B K wi aw) (hg : SimG B K g ag) (hin : GIn vs g) (ht : SimT B K tt at') (he : SimE B K te ae) : SimE B K (tLc wi g tt te vs) (aLcM aw ag at' ae vs) := fun σ s F C R H Q P hs hS h k => by
  refine lc_sim hi hg hin ht he hs hS h fun Dl acc accD F' C' H' e1 hR S r h1 => ?_
  exact k _ _ F' _ H' e1 (S.outC hR (hS.freeB hR) (.lst r)) (.ce Dl) (h1 Dl (S.priv Dl _ upd_same).2.1)
section
variable {elt tg iter : Expr} {ifs : List Expr} {scope : Scope} {own : List (Str × Nat)} {wi : TI} {g : TG} {tt : TT} {te : TE} {aw : AI'} {ag : AG'} {at' : AT'} {ae : AE'}
theorem ae_lc (own : List (Str × Nat)) (hN : X.N.Nodup) (hi : AI B X tg iter wi aw) (ok : BlkOk X.N X.env.scope scope own)
    (hg : ∀ (s : Shared) (H : Hp) (C : Addr) (cl : List (Str × Addr)) (fp : List Addr), AG B (X.blk s H scope (compEnvC scope cl C X.env) fp) tg (own.map (·.2)) g ag) (ht : ∀ (s : Shared) (H : Hp) (C : Addr) (cl : List (Str × Addr)) (fp : List Addr), ATs B (X.blk s H scope (compEnvC scope cl C X.env) fp) ifs tt at')
    (he : ∀ (s : Shared) (H : Hp) (C : Addr) (cl : List (Str × Addr)) (fp : List Addr), AE B (X.blk s H scope (compEnvC scope cl C X.env) fp) elt te ae) (hc : X.calm = true := by rfl) (hs : ∀ x, foldedSetIterable iter X.env x = pure x := by intro _; rfl) :
    AE B X (.ListComp elt [⟨tg, iter, ifs, 0⟩] scope pos) (tLc wi g tt te (own.map (·.2))) (aLc aw ag at' ae (own.map (·.2))) :=
  ⟨pe_lc hc hN hi.pi ok (fun s H C cl fp => (hg s H C cl fp).pg) (fun s H C cl fp => (ht s H C cl fp).pts) (fun s H C cl fp => (he s H C cl fp).pe) hs,
    let G := hg X.s_0 (fun _ => none) 0 [] []
    sim_lc hi.sim G.sim G.inn (ht X.s_0 (fun _ => none) 0 [] []).sim (he X.s_0 (fun _ => none) 0 [] []).sim⟩
theorem as_setLcM (i : Nat) (own : List (Str × Nat)) {y : Str} {py spos : Pos} (hN : X.N.Nodup) (hi : AI B X tg iter wi aw) (hsw : swapsWith (.ListComp elt [⟨tg, iter, ifs, 0⟩] scope pos) (some (.Name y py)) spos.line X.env = pure true) (ok : BlkOk X.N X.env.scope scope own)
    (hg : ∀ (s : Shared) (H : Hp) (C : Addr) (cl : List (Str × Addr)) (fp : List Addr), AG B (X.blk s H scope (compEnvC scope cl C X.env) fp) tg (own.map (·.2)) g ag) (ht : ∀ (s : Shared) (H : Hp) (C : Addr) (cl : List (Str × Addr)) (fp : List Addr), ATs B (X.blk s H scope (compEnvC scope cl C X.env) fp) ifs tt at')
    (he : ∀ (s : Shared) (H : Hp) (C : Addr) (cl : List (Str × Addr)) (fp : List Addr), AE B (X.blk s H scope (compEnvC scope cl C X.env) fp) elt te ae) (hy : X.N[i]? = some y := by rfl) (hyl : X.env.scope.names.lookup y = some .local := by rfl) (hc : X.calm = true := by rfl) (hs : ∀ x, foldedSetIterable iter X.env x = pure x := by intro _; rfl) :
    AS B X (.Assign [.Name y py] (.ListComp elt [⟨tg, iter, ifs, 0⟩] scope pos) spos) (tAsg (tLc wi g tt te (own.map (·.2))) (gName i)) (aAsg (aLcM aw ag at' ae (own.map (·.2))) (aGName i)) :=
  ⟨ps_setLc hc hN hy hyl hsw hi.pi ok (fun s H C cl fp => (hg s H C cl fp).pg) (fun s H C cl fp => (ht s H C cl fp).pts) (fun s H C cl fp => (he s H C cl fp).pe) hs,
    let G := hg X.s_0 (fun _ => none) 0 [] []
    sim_asg (sim_lcM hi.sim G.sim G.inn (ht X.s_0 (fun _ => none) 0 [] []).sim (he X.s_0 (fun _ => none) 0 [] []).sim) (sim_name i)⟩
end
end
end AL
namespace AL
open PySem PySem.Spec L2
variable {B : Bs}
theorem law_sp {asp : ASp} {n : Nat} (h : ∀ ns : List Int, ns.length ≤ n → asp [.scr ns] (fun _ => none) (fun d _ => d = .bl true)) (w : Gd) (K : PySem.W.Frag) (H : Hp) (a : Addr) (ns : List Int) (hn : ns.length ≤ n) (hS : SqL K H a (ns.map V.int)) :
    spOf w K 1 asp [.ref a] H (fun v _ => v = .bl true) fun _ _ _ => False := by
  refine ⟨rfl, H, fun _ => none, fun _ => none, [.scr ns], fun d _ => d = .bl true, ⟨fun _ _ z => (by cases z), fun _ _ z => (by cases z), Ex.refl H, fun _ _ z => (by cases z), fun _ _ z => (by cases z)⟩, .cons (.scr hS) .nil, h ns hn, fun d v F' C' H' _ _ r e => ?_⟩
  subst e
  cases r
  rfl
end AL
namespace AL
open PySem L2
theorem atI_nat' {α : Type} {xs : List α} {i : Nat} {x : α} (h : xs[i]? = some x) : atI xs (i : Int) = some x := by
  have hi := (List.getElem?_eq_some_iff.mp h).1
  unfold atI ixN
  rw [if_pos (by omega), if_pos (by omega)]
  simpa using h
section
variable {a b : AS'} {nx : ASt → AH → Prop} {rt : D → AH → Prop} {bk ct : ASt → AH → Prop} {s : ASt} {C : AH} {e e1 e2 e3 : AE'} {t t1 t2 : AT'} {g : AG'} {P : D → AH → Prop} {PB : Bool → AH → Prop} {PA : List D → AH → Prop} {w : AI'} {aa : AA'}
theorem g_body' {n : Nat} {ds : List D} {s : ASt} (h0 : ds.map some ++ List.replicate (n - ds.length) none = s) (h : a ⟨fun _ C' => P .non C', P, fun _ _ => False, fun _ _ => False⟩ s C) : aBody n a ds C P := by
  subst h0
  exact h
theorem g_gname' {i : Nat} {d : D} {Q : ASt → AH → Prop} {s' : ASt} (h0 : s.set i (some d) = s') (h : Q s' C) : aGName i d s C Q := by
  subst h0
  exact h
theorem g_seq (h : a ⟨b ⟨nx, rt, bk, ct⟩, rt, bk, ct⟩ s C) : aSeq a b ⟨nx, rt, bk, ct⟩ s C := h
theorem g_next (h : nx s C) : aNext ⟨nx, rt, bk, ct⟩ s C := h
theorem g_asg (h : e s C fun x C1 => g x s C1 nx) : aAsg e g ⟨nx, rt, bk, ct⟩ s C := h
theorem g_drop (h : e s C fun _ C1 => nx s C1) : aDrop e ⟨nx, rt, bk, ct⟩ s C := h
theorem g_ret (h : e s C rt) : aRet e ⟨nx, rt, bk, ct⟩ s C := h
theorem g_retN (h : rt .non C) : aRetN ⟨nx, rt, bk, ct⟩ s C := h
theorem g_ifS (h : t s C fun k C1 => if k = true then a ⟨nx, rt, bk, ct⟩ s C1 else b ⟨nx, rt, bk, ct⟩ s C1) : aIfS t a b ⟨nx, rt, bk, ct⟩ s C := h
theorem g_ifF (ht : ∀ K : Bool → AH → Prop, K false C → t s C K) (h : b ⟨nx, rt, bk, ct⟩ s C) : aIfS t a b ⟨nx, rt, bk, ct⟩ s C := ht _ h
theorem g_ifJ (M : ASt → AH → Prop) (h : ∀ N : ASt → AH → Prop, (∀ s' C', M s' C' → N s' C') → aIfS t a b ⟨N, rt, bk, ct⟩ s C) (k : ∀ s' C', M s' C' → nx s' C') : aIfS t a b ⟨nx, rt, bk, ct⟩ s C := h nx k
theorem g_gtup {n : Nat} {ds : List D} {gs : AGs'} {Q : ASt → AH → Prop} (hn : ds.length = n) (h : gs ds s C Q) : aGTup n gs (.tup ds) s C Q := ⟨hn, h⟩
theorem g_gcons {d : D} {ds : List D} {gs : AGs'} {Q : ASt → AH → Prop} (h : g d s C fun s' C' => gs ds s' C' Q) : aGCons g gs (d :: ds) s C Q := h
theorem g_gnil {Q : ASt → AH → Prop} (h : Q s C) : aGNil [] s C Q := h
def kSet (p : Addr) (d : D) (s : ASt) (Q : ASt → AH → Prop) : D → AH → Prop := fun y C2 => match y with | .int j => (match C2 p with | some (.lst us) => (match ixN us.length j with | some k => Q s (put C2 p (.lst (us.set k d))) | none => False) | _ => False) | _ => False
/-- xs[i] = d, xs a name's cell -/
theorem g_gsetV {i : Nat} {d : D} {p : Addr} {Q : ASt → AH → Prop} (hi : s[i]? = some (some (.ce p))) (h : e2 s C (kSet p d s Q)) : aGSet (aVar i) e2 d s C Q := by
  unfold aGSet aVar
  rw [hi]
  refine (congrArg (e2 s C) ?_).mpr h
  funext y C2
  cases y <;> rfl
theorem g_kSet {j : Int} {p : Addr} {us : List D} {k : Nat} {d : D} {Q : ASt → AH → Prop} (h1 : C p = some (.lst us)) (h2 : ixN us.length j = some k) (h : Q s (put C p (.lst (us.set k d)))) : kSet p d s Q (.int j) C := by
  unfold kSet
  simp only [h1, h2]
  exact h
theorem g_frzL {i : Nat} {p : Addr} {ds : List D} {E : AEnds} (h0 : s[i]? = some (some (.ce p))) (h1 : C p = some (.lst ds)) (h : a E (s.set i (some (.lst ds))) (del C p)) : aFrz i a E s C := by
  unfold aFrz
  rw [h0]
  show (match C p with | some (.lst ds) => a E (s.set i (some (.lst ds))) (del C p) | some (.dk es) => a E (s.set i (some (.dk es))) (del C p) | _ => False)
  rw [h1]
  exact h
theorem g_var {i : Nat} {d : D} (hi : s[i]? = some (some d)) (h : P d C) : aVar i s C P := by
  unfold aVar
  rw [hi]
  exact h
theorem g_yes (h : PB true C) : aYes s C PB := h
theorem g_c {d : D} (h : P d C) : aC d s C P := h
theorem g_op {r : D → D → AH → (D → AH → Prop) → Prop} (h : e1 s C fun x C1 => e2 s C1 fun y C2 => r x y C2 P) : aOp r e1 e2 s C P := h
theorem g_un {r : D → AH → (D → AH → Prop) → Prop} (h : e1 s C fun x C1 => r x C1 P) : aUn r e1 s C P := h
theorem g_sub {i j : Int} (h : P (.int (i - j)) C) : aSub (.int i) (.int j) C P := h
theorem g_lt {i j : Int} (h : P (.bl (decide (i < j))) C) : aLt (.int i) (.int j) C P := h
theorem g_le {i j : Int} (h : P (.bl (decide (i ≤ j))) C) : aLe (.int i) (.int j) C P := h
theorem g_gt {i j : Int} (h : P (.bl (decide (j < i))) C) : aGt (.int i) (.int j) C P := h
theorem g_ge {i j : Int} (h : P (.bl (decide (j ≤ i))) C) : aGe (.int i) (.int j) C P := h
theorem g_mul {i j : Int} (h1 : CMul i j) (h : P (.int (i * j)) C) : aMul (.int i) (.int j) C P := ⟨h1, h⟩
theorem g_div {i j : Int} (h1 : CDiv i j) (h : P (.int (i / j)) C) : aDiv (.int i) (.int j) C P := ⟨h1, h⟩
theorem g_mod {i j : Int} (h1 : 0 < j) (h : P (.int (i % j)) C) : aMod (.int i) (.int j) C P := ⟨h1, h⟩
theorem g_pow {i j : Int} (h1 : CPow i j) (h : P (.int (i ^ j.toNat)) C) : aPow (.int i) (.int j) C P := ⟨h1, h⟩
theorem g_addI {i j : Int} (h : P (.int (i + j)) C) : aAdd (.int i) (.int j) C P := h
theorem g_addS {i j : Str} (h1 : i.length + j.length ≤ sizeLine) (h : P (.str (i ++ j)) C) : aAdd (.str i) (.str j) C P := ⟨h1, h⟩
theorem g_addT {i j : List D} (h1 : i.length + j.length ≤ sizeLine) (h : P (.tup (i ++ j)) C) : aAdd (.tup i) (.tup j) C P := ⟨h1, h⟩
theorem g_addL {i j : List D} (h1 : i.length + j.length ≤ sizeLine) (h : P (.lst (i ++ j)) C) : aAdd (.lst i) (.lst j) C P := ⟨i, j, rfl, rfl, h1, h⟩
theorem g_eqII {i j : Int} (h : P (.bl (decide (i = j))) C) : aEq (.int i) (.int j) C P := h
theorem g_neII {i j : Int} (h : P (.bl (!decide (i = j))) C) : aNe (.int i) (.int j) C P := h
theorem g_eqBB {i j : Bool} (h : P (.bl (decide (i = j))) C) : aEq (.bl i) (.bl j) C P := h
theorem g_neBB {i j : Bool} (h : P (.bl (!decide (i = j))) C) : aNe (.bl i) (.bl j) C P := h
theorem g_eqTT {i j : Str} (h : P (.bl (decide (i = j))) C) : aEq (.str i) (.str j) C P := h
theorem g_neTT {i j : Str} (h : P (.bl (!decide (i = j))) C) : aNe (.str i) (.str j) C P := h
theorem g_is {x : D} (h : P (.bl (isNon x)) C) : aIsN x .non C P := ⟨rfl, h⟩
theorem g_isnot {x : D} (h : P (.bl (!isNon x)) C) : aNotN x .non C P := ⟨rfl, h⟩
def kTru (PB : Bool → AH → Prop) : D → AH → Prop := fun x C1 => match truth C1 x with | some b => PB b C1 | none => False
theorem g_tru (h : e s C (kTru PB)) : aTru e s C PB := h
theorem g_kTruB {k : Bool} (h : PB k C) : kTru PB (.bl k) C := h
def kB (PB : Bool → AH → Prop) : D → AH → Prop := fun x C1 => match x with | .bl b => PB b C1 | _ => False
theorem g_B (h : e s C (kB PB)) : aB e s C PB := h
theorem g_kB {k : Bool} (h : PB k C) : kB PB (.bl k) C := h
theorem g_and (h : t1 s C fun c C1 => if c = true then t2 s C1 PB else PB false C1) : aAnd t1 t2 s C PB := h
theorem g_or (h : t1 s C fun c C1 => if c = true then PB true C1 else t2 s C1 PB) : aOr t1 t2 s C PB := h
theorem g_not (h : t1 s C fun c C1 => PB (!c) C1) : aNot t1 s C PB := h
def kAndV (e2 : AE') (s : ASt) (P : D → AH → Prop) : D → AH → Prop := fun x C1 => match truth C1 x with | some true => e2 s C1 P | some false => P x C1 | none => False
def kOrV (e2 : AE') (s : ASt) (P : D → AH → Prop) : D → AH → Prop := fun x C1 => match truth C1 x with | some true => P x C1 | some false => e2 s C1 P | none => False
def kNotV (P : D → AH → Prop) : D → AH → Prop := fun x C1 => match truth C1 x with | some b => P (.bl (!b)) C1 | none => False
theorem g_andV (h : e1 s C (kAndV e2 s P)) : aAndV e1 e2 s C P := h
theorem g_orV (h : e1 s C (kOrV e2 s P)) : aOrV e1 e2 s C P := h
theorem g_notV (h : e1 s C (kNotV P)) : aNotV e1 s C P := h
theorem g_kAnd {k : Bool} (h1 : k = true → e2 s C P) (h2 : k = false → P (.bl false) C) : kAndV e2 s P (.bl k) C := by
  cases k
  · exact h2 rfl
  · exact h1 rfl
theorem g_kNot {k : Bool} (h : P (.bl (!k)) C) : kNotV P (.bl k) C := h
theorem g_if (h : t s C fun c C1 => if c = true then e1 s C1 P else e2 s C1 P) : aIf t e1 e2 s C P := h
theorem g_ite {A B : Prop} {k : Bool} (h1 : k = true → A) (h2 : k = false → B) : if k = true then A else B := by
  cases k
  · exact h2 rfl
  · exact h1 rfl
theorem g_iteD {A B : Prop} {p : Prop} [Decidable p] (h1 : p → A) (h2 : ¬ p → B) : if decide p = true then A else B := by
  by_cases h : p
  · rw [decide_eq_true h]; exact h1 h
  · rw [decide_eq_false h]; exact h2 h
theorem g_iteT {A B : Prop} (h : A) : if true = true then A else B := h
theorem g_iteF {A B : Prop} (h : B) : if false = true then A else B := h
theorem g_iteNT {A B : Prop} (h : B) : if (!true) = true then A else B := h
theorem g_iteNF {A B : Prop} (h : A) : if (!false) = true then A else B := h
theorem g_nil (h : PA [] C) : aNil s C PA := h
theorem g_cons (h : e s C fun x C1 => aa s C1 fun xs C2 => PA (x :: xs) C2) : aCons e aa s C PA := h
theorem g_tup (h : aa s C fun ds C1 => ds.length ≤ sizeLine ∧ P (.tup ds) C1) : aTup aa s C P := h
theorem g_lst (h : aa s C fun ds C1 => ds.length ≤ sizeLine ∧ P (.lst ds) C1) : aLst aa s C P := h
theorem g_lstM (h : aa s C fun ds C1 => ds.length ≤ sizeLine ∧ ∀ p, C1 p = none → P (.ce p) (put C1 p (.lst ds))) : aLstM aa s C P := h
theorem g_call {asp : ASp} (h : aa s C fun ds C1 => asp ds C1 P) : aCall asp aa s C P := h
def kIsi (T : String) (P : D → AH → Prop) : D → AH → Prop := fun x C1 => match kindOf C1 x with | some t => P (.bl (isT T t)) C1 | none => False
theorem g_isi {T : String} (h : e s C (kIsi T P)) : aIsi T e s C P := h
theorem g_kIsiI {T : String} {i : Int} (h : P (.bl (isT T "int")) C) : kIsi T P (.int i) C := h
theorem g_kIsiB {T : String} {i : Bool} (h : P (.bl (isT T "bool")) C) : kIsi T P (.bl i) C := h
theorem g_kIsiN {T : String} (h : P (.bl (isT T "NoneType")) C) : kIsi T P .non C := h
theorem g_kIsiS {T : String} {i : Str} (h : P (.bl (isT T "str")) C) : kIsi T P (.str i) C := h
theorem g_kIsiL {T : String} {i : List D} (h : P (.bl (isT T "list")) C) : kIsi T P (.lst i) C := h
theorem g_kIsiT {T : String} {i : List D} (h : P (.bl (isT T "tuple")) C) : kIsi T P (.tup i) C := h
theorem g_kIsiK {T : String} {i : List (Key × D)} (h : P (.bl (isT T "dict")) C) : kIsi T P (.dk i) C := h
theorem g_kIsi {T t : String} {x : D} (h1 : kindOf C x = some t) (h : P (.bl (isT T t)) C) : kIsi T P x C := by
  unfold kIsi
  rw [h1]
  exact h
theorem g_meth {T : String} {m : D → ASp} (h : e s C fun x C1 => isTy T C1 x = true ∧ aa s C1 fun ds C2 => m x ds C2 P) : aMeth T m e aa s C P := h
theorem g_meth0 {T : String} {m : D → ASp} (h : e s C fun x C1 => isTy T C1 x = true ∧ m x [] C1 P) : aMeth0 T m e s C P := h
theorem g_append {p : Addr} {us : List D} {d : D} (h1 : C p = some (.lst us)) (h2 : us.length < sizeLine) (h : P .non (put C p (.lst (us ++ [d])))) : aAppend (.ce p) [d] C P := by
  unfold aAppend
  show (match C p with | some (.lst us) => us.length < sizeLine ∧ P .non (put C p (.lst (us ++ [d]))) | _ => False)
  rw [h1]
  exact ⟨h2, h⟩
theorem isTy_ce {T : String} {p : Addr} {us : List D} (h1 : C p = some (.lst us)) (h2 : T = "list") : isTy T C (.ce p) = true := by
  subst h2
  simp [isTy, h1]
theorem g_ixL {us : List D} {i : Int} {d : D} (h1 : atI us i = some d) (h : P d C) : aIx (.lst us) (.int i) C P := by
  show (match atI us i with | some d => P d C | none => False)
  rw [h1]; exact h
theorem g_ixT {us : List D} {i : Int} {d : D} (h1 : atI us i = some d) (h : P d C) : aIx (.tup us) (.int i) C P := by
  show (match atI us i with | some d => P d C | none => False)
  rw [h1]; exact h
theorem g_ixL0 {d : D} {us : List D} (h : P d C) : aIx (.lst (d :: us)) (.int 0) C P := g_ixL (atI_nat' (i := 0) rfl) h
theorem g_ixL1 {a d : D} {us : List D} (h : P d C) : aIx (.lst (a :: d :: us)) (.int 1) C P := g_ixL (atI_nat' (i := 1) rfl) h
theorem g_ixL2 {a b d : D} {us : List D} (h : P d C) : aIx (.lst (a :: b :: d :: us)) (.int 2) C P := g_ixL (atI_nat' (i := 2) rfl) h
theorem g_ixT0 {d : D} {us : List D} (h : P d C) : aIx (.tup (d :: us)) (.int 0) C P := g_ixT (atI_nat' (i := 0) rfl) h
theorem g_ixT1 {a d : D} {us : List D} (h : P d C) : aIx (.tup (a :: d :: us)) (.int 1) C P := g_ixT (atI_nat' (i := 1) rfl) h
theorem g_ixT2 {a b d : D} {us : List D} (h : P d C) : aIx (.tup (a :: b :: d :: us)) (.int 2) C P := g_ixT (atI_nat' (i := 2) rfl) h
theorem g_ixT3 {a b c d : D} {us : List D} (h : P d C) : aIx (.tup (a :: b :: c :: d :: us)) (.int 3) C P := g_ixT (atI_nat' (i := 3) rfl) h
theorem g_ixR {ns : List Int} {i : Int} {d : D} (h1 : atI (ns.map D.int) i = some d) (h : P d C) : aIx (.scr ns) (.int i) C P := by
  show (match atI (ns.map D.int) i with | some d => P d C | none => False)
  rw [h1]; exact h
theorem g_ixC {p : Addr} {us : List D} {i : Int} (h0 : C p = some (.lst us)) (h : aIx (.lst us) (.int i) C P) : aIx (.ce p) (.int i) C P := by
  show (match (match C p with | some (.lst us) => some us | _ => none) with | some ds => (match atI ds i with | some d => P d C | none => False) | none => False)
  rw [h0]
  exact h
theorem g_lenL {us : List D} (h : P (.int us.length) C) : aLen [.lst us] C P := h
theorem g_lenT {us : List D} (h : P (.int us.length) C) : aLen [.tup us] C P := h
theorem g_lenS {z : Str} (h1 : z.length ≤ sizeLine) (h : P (.int z.length) C) : aLen [.str z] C P := ⟨h1, h⟩
theorem g_lenR {ns : List Int} (h : P (.int ns.length) C) : aLen [.scr ns] C P := by
  show P (.int (ns.map D.int).length) C
  rw [List.length_map]; exact h
theorem g_lenC {p : Addr} {us : List D} (h0 : C p = some (.lst us)) (h : P (.int us.length) C) : aLen [.ce p] C P := by
  show (match C p with | some (.lst us) => P (.int us.length) C | some (.dk us) => P (.int us.length) C | _ => False)
  rw [h0]; exact h
theorem g_abs {i : Int} (h : P (.int (if i < 0 then -i else i)) C) : aAbs [.int i] C P := h
theorem g_max2 {i j : Int} (h : P (.int (if j > i then j else i)) C) : aMax2 [.int i, .int j] C P := h
theorem g_min2 {i j : Int} (h : P (.int (if j < i then j else i)) C) : aMin2 [.int i, .int j] C P := h
theorem g_intI {i : Int} (h : P (.int i) C) : aInt [.int i] C P := h
theorem g_intB {k : Bool} (h : P (.int (if k then 1 else 0)) C) : aInt [.bl k] C P := h
theorem g_listL {us : List D} (h : P (.lst us) C) : aListOf [.lst us] C P := h
theorem g_listT {us : List D} (h : P (.lst us) C) : aListOf [.tup us] C P := h
theorem g_tupleL {us : List D} (h : P (.tup us) C) : aTupleOf [.lst us] C P := h
theorem g_tupleT {us : List D} (h : P (.tup us) C) : aTupleOf [.tup us] C P := h
theorem g_all {us : List D} {bs : List Bool} (h1 : blsD us = some bs) (h : P (.bl (bs.all id)) C) : aAll [.lst us] C P := by
  show (match (some us).bind blsD with | some bs => P (.bl (bs.all id)) C | none => False)
  rw [Option.bind_some, h1]; exact h
theorem g_any {us : List D} {bs : List Bool} (h1 : blsD us = some bs) (h : P (.bl (bs.any id)) C) : aAny [.lst us] C P := by
  show (match (some us).bind blsD with | some bs => P (.bl (bs.any id)) C | none => False)
  rw [Option.bind_some, h1]; exact h
theorem g_rev {us : List D} (h : P (.lst us.reverse) C) : aRev (.lst us) C P := h
variable {PI : List D → (AH → Prop) → AH → Prop}
def kIL (PI : List D → (AH → Prop) → AH → Prop) : D → AH → Prop := fun x C1 => match asLr C1 x with | some ds => PI ds (fun C' => asLr C' x = some ds) C1 | none => False
theorem g_il (h : e s C (kIL PI)) : aIL e s C PI := h
theorem g_kIL {us : List D} (h : PI us (fun _ => True) C) (e : ∀ C' : AH, asLr C' (.lst us) = some us) (m : (fun _ : AH => True) = fun C' : AH => asLr C' (.lst us) = some us) : kIL PI (.lst us) C := by
  show PI us (fun C' => asLr C' (.lst us) = some us) C
  rw [← m]
  exact h
theorem g_kILl {us : List D} (h : PI us (fun _ => True) C) : kIL PI (.lst us) C := g_kIL h (fun _ => rfl) (by funext C'; simp [asLr, asL])
theorem g_kILr {ns : List Int} (h : PI (ns.map D.int) (fun _ => True) C) : kIL PI (.scr ns) C := by
  show PI (ns.map D.int) (fun C' => asLr C' (.scr ns) = some (ns.map D.int)) C
  have m : (fun _ : AH => True) = fun C' : AH => asLr C' (.scr ns) = some (ns.map D.int) := by funext C'; simp [asLr]
  rw [← m]
  exact h
theorem g_kILc {p : Addr} {us : List D} (h0 : C p = some (.lst us)) (h : PI us (fun C' => C' p = some (.lst us)) C) (m : ∀ h1 h2 : AH → Prop, (∀ C, h1 C → h2 C) → PI us h1 C → PI us h2 C) : kIL PI (.ce p) C := by
  have e : ∀ C' : AH, C' p = some (.lst us) → asLr C' (.ce p) = some us := fun C' h => by simp [asLr, asL, h]
  show (match asLr C (.ce p) with | some ds => PI ds (fun C' => asLr C' (.ce p) = some ds) C | none => False)
  rw [e C h0]
  exact m _ _ e h
def kIT (PI : List D → (AH → Prop) → AH → Prop) : D → AH → Prop := fun x C1 => match asT x with | some ds => PI ds (fun _ => True) C1 | none => False
theorem g_it (h : e s C (kIT PI)) : aIT e s C PI := h
theorem g_kIT {us : List D} (h : PI us (fun _ => True) C) : kIT PI (.tup us) C := h
def kIS (PI : List D → (AH → Prop) → AH → Prop) : D → AH → Prop := fun x C1 => match x with | .str z => PI (signs z) (fun _ => True) C1 | _ => False
theorem g_is' (h : e s C (kIS PI)) : aIS e s C PI := h
theorem g_kIS {z : Str} (h : PI (signs z) (fun _ => True) C) : kIS PI (.str z) C := h
def kIR1 (PI : List D → (AH → Prop) → AH → Prop) : List D → AH → Prop := fun ds C1 => match ds with | [.int j] => -(2 ^ 62) ≤ j ∧ j < 2 ^ 62 ∧ PI (rangeD 0 j.toNat) (fun _ => True) C1 | _ => False
theorem g_ir1 (h : aa s C (kIR1 PI)) : aIR1 aa s C PI := h
theorem g_kIR1 {j : Int} (h1 : -(2 ^ 62) ≤ j) (h2 : j < 2 ^ 62) (h : PI (rangeD 0 j.toNat) (fun _ => True) C) : kIR1 PI [.int j] C := ⟨h1, h2, h⟩
def kIR2 (PI : List D → (AH → Prop) → AH → Prop) : List D → AH → Prop := fun ds C1 => match ds with | [.int i, .int j] => (-(2 ^ 62) ≤ i ∧ i < 2 ^ 62 ∧ -(2 ^ 62) ≤ j ∧ j < 2 ^ 62) ∧ PI (rangeD i (j - i).toNat) (fun _ => True) C1 | _ => False
theorem g_ir2 (h : aa s C (kIR2 PI)) : aIR2 aa s C PI := h
theorem g_kIR2 {i j : Int} (h1 : -(2 ^ 62) ≤ i ∧ i < 2 ^ 62 ∧ -(2 ^ 62) ≤ j ∧ j < 2 ^ 62) (h : PI (rangeD i (j - i).toNat) (fun _ => True) C) : kIR2 PI [.int i, .int j] C := ⟨h1, h⟩
def kIE (PI : List D → (AH → Prop) → AH → Prop) : List D → AH → Prop := fun us C1 => match us with | [x] => (match asLr C1 x with | some ds => PI (enumD ds) (fun C' => asLr C' x = some ds) C1 | none => False) | _ => False
theorem g_ie (h : aa s C (kIE PI)) : aIE aa s C PI := h
theorem g_kIE {us : List D} (h : PI (enumD us) (fun _ => True) C) : kIE PI [.lst us] C := by
  show PI (enumD us) (fun C' => asLr C' (.lst us) = some us) C
  have m : (fun _ : AH => True) = fun C' : AH => asLr C' (.lst us) = some us := by funext C'; simp [asLr, asL]
  rw [← m]
  exact h
def kIZ (PI : List D → (AH → Prop) → AH → Prop) : List D → AH → Prop := fun us C1 => match us with | [x, y] => (match asLr C1 x, asLr C1 y with | some ds, some es => PI (zipD ds es) (fun C' => asLr C' x = some ds ∧ asLr C' y = some es) C1 | _, _ => False) | _ => False
theorem g_iz (h : aa s C (kIZ PI)) : aIZ aa s C PI := h
theorem g_kIZ {us ws : List D} (h : PI (zipD us ws) (fun _ => True) C) : kIZ PI [.lst us, .lst ws] C := by
  show PI (zipD us ws) (fun C' => asLr C' (.lst us) = some us ∧ asLr C' (.lst ws) = some ws) C
  have m : (fun _ : AH => True) = fun C' : AH => asLr C' (.lst us) = some us ∧ asLr C' (.lst ws) = some ws := by funext C'; simp [asLr, asL]
  rw [← m]
  exact h
/-- a loop whose items are known -/
def kFor (g : AG') (ab : AS') (nx : ASt → AH → Prop) (rt : D → AH → Prop) (s : ASt) : List D → (AH → Prop) → AH → Prop := fun items hold C => ∃ W : Nat → ASt → AH → Prop, W 0 s C ∧ (∀ i s' C', i ≤ items.length → W i s' C' → hold C') ∧
  (∀ i d s' C', items[i]? = some d → W i s' C' → g d s' C' fun s2 C2 => ab ⟨W (i + 1), rt, nx, W (i + 1)⟩ s2 C2) ∧ ∀ s' C', W items.length s' C' → nx s' C'
theorem g_for {ab : AS'} (h : w s C (kFor g ab nx rt s)) : aFor w g ab ⟨nx, rt, bk, ct⟩ s C := h
theorem g_kFor {ab : AS'} {items : List D} (W : Nat → ASt → AH → Prop) (h0 : W 0 s C)
    (hs : ∀ i d s' C', items[i]? = some d → W i s' C' → g d s' C' fun s2 C2 => ab ⟨W (i + 1), rt, nx, W (i + 1)⟩ s2 C2) (hd : ∀ s' C', W items.length s' C' → nx s' C') : kFor g ab nx rt s items (fun _ => True) C :=
  ⟨W, h0, fun _ _ _ _ _ => trivial, hs, hd⟩
/-- over a range -/
theorem g_kForR {ab : AS'} {lo : Int} {n j : Nat} (W : Nat → ASt → AH → Prop) (h0 : W 0 s C)
    (hs : ∀ (i : Nat) s' C', i < n → W i s' C' → ab ⟨W (i + 1), rt, nx, W (i + 1)⟩ (s'.set j (some (.int (lo + i)))) C') (hd : ∀ s' C', W n s' C' → nx s' C') : kFor (aGName j) ab nx rt s (rangeD lo n) (fun _ => True) C := by
  refine g_kFor W h0 (fun i d s' C' hi hw => ?_) (fun s' C' hw => hd s' C' (by rw [rangeD_len] at hw; exact hw))
  have hl : i < n := by
    have := (List.getElem?_eq_some_iff.mp hi).1
    rw [rangeD_len] at this
    exact this
  rw [rangeD_get hl] at hi
  cases hi
  exact hs i s' C' hl hw
theorem g_kForR0 {ab : AS'} {n j : Nat} (W : Nat → ASt → AH → Prop) (h0 : W 0 s C)
    (hs : ∀ (i : Nat) s' C', i < n → W i s' C' → ab ⟨W (i + 1), rt, nx, W (i + 1)⟩ (s'.set j (some (.int (i : Int)))) C') (hd : ∀ s' C', W n s' C' → nx s' C') : kFor (aGName j) ab nx rt s (rangeD 0 n) (fun _ => True) C :=
  g_kForR W h0 (fun i s' C' hi w => by rw [Int.zero_add]; exact hs i s' C' hi w) hd
/-- over a list of which something is known of each item -/
theorem g_kForL {ab : AS'} {items : List D} {j : Nat} (W : Nat → ASt → AH → Prop) (h0 : W 0 s C)
    (hs : ∀ (i : Nat) d s' C', items[i]? = some d → W i s' C' → ab ⟨W (i + 1), rt, nx, W (i + 1)⟩ (s'.set j (some d)) C') (hd : ∀ s' C', W items.length s' C' → nx s' C') : kFor (aGName j) ab nx rt s items (fun _ => True) C := g_kFor W h0 hs hd
theorem g_while {t : AT'} {ab : AS'} (W : Nat → ASt → AH → Prop) (m : Nat) (h0 : W m s C) (hs : ∀ m s' C', W m s' C' → t s' C' fun k C1 => if k = true then ab ⟨fun s2 C2 => ∃ m', m' < m ∧ W m' s2 C2, rt, nx, fun s2 C2 => ∃ m', m' < m ∧ W m' s2 C2⟩ s' C1 else nx s' C1) : aWhile t ab ⟨nx, rt, bk, ct⟩ s C := ⟨W, ⟨m, h0⟩, hs⟩
def kLc (g : AG') (t : AT') (e : AE') (vs : List Nat) (fin : List D → AH → Prop) (s : ASt) : List D → (AH → Prop) → AH → Prop := fun items hold C1 => items.length ≤ sizeLine ∧ ∃ W : Nat → List D → AH → Prop, W 0 [] C1 ∧ (∀ i acc C', i ≤ items.length → W i acc C' → hold C') ∧
  (∀ i d acc C', items[i]? = some d → W i acc C' → g d (wipeA s vs) C' fun s2 C2 => t s2 C2 fun b C3 => if b = true then e s2 C3 fun y C4 => W (i + 1) (acc ++ [y]) C4 else W (i + 1) acc C3) ∧ ∀ acc C', W items.length acc C' → fin acc C'
theorem g_lc {t : AT'} {vs : List Nat} (h : w s C (kLc g t e vs (fun acc C' => P (.lst acc) C') s)) : aLc w g t e vs s C P := h
theorem g_lcM {t : AT'} {vs : List Nat} (h : w s C (kLc g t e vs (fun acc C' => ∀ p, C' p = none → P (.ce p) (put C' p (.lst acc))) s)) : aLcM w g t e vs s C P := h
theorem g_kLc {t : AT'} {vs : List Nat} {fin : List D → AH → Prop} {items : List D} (W : Nat → List D → AH → Prop) (hl : items.length ≤ sizeLine) (h0 : W 0 [] C)
    (hs : ∀ i d acc C', items[i]? = some d → W i acc C' → g d (wipeA s vs) C' fun s2 C2 => t s2 C2 fun b C3 => if b = true then e s2 C3 fun y C4 => W (i + 1) (acc ++ [y]) C4 else W (i + 1) acc C3) (hd : ∀ acc C', W items.length acc C' → fin acc C') : kLc g t e vs fin s items (fun _ => True) C :=
  ⟨hl, W, h0, fun _ _ _ _ _ => trivial, hs, hd⟩
theorem kLc_mono {t : AT'} {vs : List Nat} {fin : List D → AH → Prop} {items : List D} {h1 h2 : AH → Prop} (m : ∀ C, h1 C → h2 C) (h : kLc g t e vs fin s items h1 C) : kLc g t e vs fin s items h2 C := by
  obtain ⟨l, W, a, b, c, d⟩ := h
  exact ⟨l, W, a, fun i s' C' hi hw => m _ (b i s' C' hi hw), c, d⟩
/-- [f x for x in items], each as it stands, the cells stay -/
theorem g_kLcMap {vs : List Nat} {fin : List D → AH → Prop} {items : List D} {j : Nat} (f : D → D) (hl : items.length ≤ sizeLine) (hs : ∀ d, d ∈ items → ∀ R : D → AH → Prop, R (f d) C → e ((wipeA s vs).set j (some d)) C R) (hd : fin (items.map f) C) : kLc (aGName j) aYes e vs fin s items (fun _ => True) C := by
  refine g_kLc (fun i acc C' => acc = (items.take i).map f ∧ C' = C) hl ⟨rfl, rfl⟩ (fun i d acc C' hi hw => ?_) (fun acc C' hw => ?_)
  · obtain ⟨rfl, rfl⟩ := hw
    refine hs d (List.mem_of_getElem? hi) _ ⟨?_, rfl⟩
    rw [List.take_add_one, hi, List.map_append]
    rfl
  · obtain ⟨rfl, rfl⟩ := hw
    rw [List.take_length]
    exact hd
theorem g_kLcFilter {t : AT'} {vs : List Nat} {fin : List D → AH → Prop} {items : List D} {j : Nat} (p : D → Bool) (f : D → D) (hl : items.length ≤ sizeLine) (ht : ∀ d, d ∈ items → ∀ R : Bool → AH → Prop, R (p d) C → t ((wipeA s vs).set j (some d)) C R) (hs : ∀ d, d ∈ items → p d = true → ∀ R : D → AH → Prop, R (f d) C → e ((wipeA s vs).set j (some d)) C R) (hd : fin ((items.filter p).map f) C) : kLc (aGName j) t e vs fin s items (fun _ => True) C := by
  refine g_kLc (fun i acc C' => acc = ((items.take i).filter p).map f ∧ C' = C) hl ⟨rfl, rfl⟩ (fun i d acc C' hi hw => ?_) (fun acc C' hw => ?_)
  · obtain ⟨rfl, rfl⟩ := hw
    refine ht d (List.mem_of_getElem? hi) _ ?_
    rw [List.take_add_one, hi, List.filter_append, List.map_append]
    by_cases hp : p d = true
    · rw [if_pos hp]
      refine hs d (List.mem_of_getElem? hi) hp _ ⟨?_, rfl⟩
      simp [hp]
    · rw [if_neg hp]
      refine ⟨?_, rfl⟩
      simp [hp]
  · obtain ⟨rfl, rfl⟩ := hw
    rw [List.take_length]
    exact hd
end
theorem g_sz {n : Nat} {A : Prop} (h1 : n ≤ sizeLine) (h : A) : n ≤ sizeLine ∧ A := ⟨h1, h⟩
theorem g_ty {T : String} {C : AH} {d : D} {A : Prop} (h1 : isTy T C d = true) (h : A) : isTy T C d = true ∧ A := ⟨h1, h⟩
theorem ne_cell {C : AH} {p q : Addr} {c : Cell} (h : C p = some c) (g : C q = none) : p ≠ q := fun z => by rw [z, g] at h; cases h
theorem put_other {C : AH} {p q : Addr} {o : Option Cell} {d : Cell} (hn : p ≠ q) (h : C p = o) : put C q d p = o := by rw [put_ne hn]; exact h
theorem del_other {C : AH} {p q : Addr} {o : Option Cell} (hn : p ≠ q) (h : C p = o) : del C q p = o := by unfold del; rw [if_neg hn]; exact h
end AL
namespace AL
open PySem L2
mutual
def okD : D → Nat → Bool
  | .non, _ => true
  | .bl _, _ => true
  | .int _, _ => true
  | .str x, _ => x.cps.all (· < 0x110000)
  | .lst ds, n + 1 => okL ds n
  | .tup ds, n + 1 => okL ds n
  | _, _ => false
def okL : List D → Nat → Bool
  | [], _ => true
  | d :: ds, n => okD d n && okL ds n
end
mutual
theorem okD_pd : ∀ (d : D) (n : Nat), okD d n = true → ∃ x, d.pd = some x ∧ x.canLay0 = true ∧ x.depth ≤ n
  | .non, n, _ => ⟨.none, by simp [D.pd], by simp [PyData.canLay0], by simp [PyData.depth]⟩
  | .bl b, n, _ => ⟨.bool b, by simp [D.pd], by simp [PyData.canLay0], by simp [PyData.depth]⟩
  | .int i, n, _ => ⟨.int i, by simp [D.pd], by simp [PyData.canLay0], by simp [PyData.depth]⟩
  | .str x, n, h => ⟨.str x, by simp [D.pd], by simpa [PyData.canLay0, PyData.strOk, okD] using h, by simp [PyData.depth]⟩
  | .lst ds, 0, h => by simp [okD] at h
  | .lst ds, n + 1, h => by
    obtain ⟨xs, h1, h2, h3⟩ := okL_pd ds n (by simpa [okD] using h)
    exact ⟨.list xs, by simp [D.pd, h1], by simpa [PyData.canLay0] using h2, by simp [PyData.depth]; omega⟩
  | .tup ds, 0, h => by simp [okD] at h
  | .tup ds, n + 1, h => by
    obtain ⟨xs, h1, h2, h3⟩ := okL_pd ds n (by simpa [okD] using h)
    exact ⟨.tuple xs, by simp [D.pd, h1], by simpa [PyData.canLay0] using h2, by simp [PyData.depth]; omega⟩
  | .dk _, _, h => by simp [okD] at h
  | .scr _, _, h => by simp [okD] at h
  | .ce _, _, h => by simp [okD] at h
theorem okL_pd : ∀ (ds : List D) (n : Nat), okL ds n = true → ∃ xs, pdL ds = some xs ∧ PyData.canLayAll0 xs = true ∧ PyData.depthAll xs ≤ n
  | [], n, _ => ⟨[], by simp [pdL], by simp [PyData.canLayAll0], by simp [PyData.depthAll]⟩
  | d :: ds, n, h => by
    simp only [okL, Bool.and_eq_true] at h
    obtain ⟨x, a1, a2, a3⟩ := okD_pd d n h.1
    obtain ⟨xs, b1, b2, b3⟩ := okL_pd ds n h.2
    exact ⟨x :: xs, by simp [pdL, a1, b1], by simp [PyData.canLayAll0, a2, b2], by simp [PyData.depthAll]; omega⟩
end
theorem okD_shaped {d : D} {n : Nat} (h : okD d n = true) (hn : n ≤ 64) : ∃ x, d.pd = some x ∧ SeqAt.shaped x = true ∧ PyData.eqv x x = true := by
  obtain ⟨x, h1, h2, h3⟩ := okD_pd d n h
  refine ⟨x, h1, ?_, SeqAt.eqv_refl x h2⟩
  unfold SeqAt.shaped
  rw [h2, decide_eq_true (show x.depth ≤ 64 by omega)]
  rfl
theorem eqS_self {d : D} {b : Bool} (h : eqS d d = some b) : b = true := by
  cases d <;> simp [eqS] at h <;> exact h
theorem pdC_ok' {C : AH} {d : D} {n : Nat} (h : okD d n = true) : pdC C d = d.pd := by
  cases d <;> first | rfl | (simp [okD] at h)
/-- a thing and itself -/
theorem g_eqR {C : AH} {d : D} {P : D → AH → Prop} (n : Nat) (h : okD d n = true) (hn : n ≤ 64) (k : P (.bl true) C) : aEq d d C P := by
  unfold aEq aEqN
  split
  · rename_i b e
    rw [eqS_self e]
    exact k
  · obtain ⟨x, h1, h2, h3⟩ := okD_shaped h hn
    exact ⟨x, x, (pdC_ok' h).trans h1, (pdC_ok' h).trans h1, h2, h2, by rw [h3]; exact k⟩
def oD : Option Nat → D
  | none => .non
  | some n => .int (n : Int)
@[simp] theorem okD_oD (o : Option Nat) (n : Nat) : okD (oD o) n = true := by cases o <;> simp [oD, okD]
/-- sg signs; every stand that is led to is there -/
structure Mach (sg : Nat) (ends : List Bool) (goes : List (List (Option Nat))) : Prop where
  len : ends.length = goes.length
  pos : 0 < ends.length
  most : ends.length ≤ 1000
  row : ∀ r ∈ goes, r.length = sg
  go : ∀ r ∈ goes, ∀ t, some t ∈ r → t < ends.length
def stepO (goes : List (List (Option Nat))) (s : Option Nat) (n : Nat) : Option Nat := match s with
  | none => none
  | some t => match goes[t]? with
    | some r => (match r[n]? with | some o => o | none => none)
    | none => none
def runO (goes : List (List (Option Nat))) (s : Option Nat) (row : List Nat) : Option Nat := row.foldl (stepO goes) s
def inn (n : Nat) (s : Option Nat) : Prop := ∀ t, s = some t → t < n
theorem Mach.step {sg : Nat} {ends : List Bool} {goes : List (List (Option Nat))} (M : Mach sg ends goes) {s : Option Nat} {n : Nat} (hs : inn ends.length s) (hn : n < sg) : inn ends.length (stepO goes s n) := by
  intro t ht
  cases s with
  | none => cases ht
  | some u =>
    have hu := hs u rfl
    have hu' : u < goes.length := by rw [← M.len]; exact hu
    have hr := M.row goes[u] (List.getElem_mem hu')
    simp only [stepO, List.getElem?_eq_getElem hu', List.getElem?_eq_getElem (show n < goes[u].length by rw [hr]; exact hn)] at ht
    exact M.go goes[u] (List.getElem_mem hu') t (by rw [← ht]; exact List.getElem_mem _)
theorem Mach.run {sg : Nat} {ends : List Bool} {goes : List (List (Option Nat))} (M : Mach sg ends goes) : ∀ (row : List Nat) {s : Option Nat}, inn ends.length s → (∀ n ∈ row, n < sg) → inn ends.length (runO goes s row)
  | [], _, hs, _ => hs
  | n :: row, _, hs, hr => M.run row (M.step hs (hr n (List.mem_cons_self))) fun k hk => hr k (List.mem_cons_of_mem _ hk)
end AL
namespace AL
open PySem L2
abbrev natsD (row : List Nat) : List D := row.map fun (n : Nat) => D.int (n : Int)
theorem natsD_get {row : List Nat} {i : Nat} {d : D} (h : (natsD row)[i]? = some d) : ∃ hi : i < row.length, d = .int (row[i] : Nat) := by
  unfold natsD at h
  rw [List.getElem?_map] at h
  cases q : row[i]? with
  | none => rw [q] at h; cases h
  | some n =>
    rw [q] at h
    obtain ⟨hi, e⟩ := List.getElem?_eq_some_iff.mp q
    cases h
    exact ⟨hi, by rw [e]⟩
@[simp] theorem natsD_len (row : List Nat) : (natsD row).length = row.length := by unfold natsD; rw [List.length_map]
theorem enumD_inv {ds : List D} {i : Nat} {d : D} (h : (enumD ds)[i]? = some d) : ∃ x, ds[i]? = some x ∧ d = .tup [.int i, x] := by
  have hi := (List.getElem?_eq_some_iff.mp h).1
  rw [enumD_len] at hi
  refine ⟨ds[i], List.getElem?_eq_getElem hi, ?_⟩
  rw [enumD_get (List.getElem?_eq_getElem hi)] at h
  cases h
  rfl
end AL
namespace AL
open PySem PySem.Spec L2
variable {B : Bs}
def keyOf : D → Option Key
  | .int i => some (.inl i)
  | .str x => some (.inr x)
  | _ => none
def valD (es : List (Key × D)) (k : Key) : Option D := (es.find? fun kv => decide (kv.1 = k)).map (·.2)
def putD (es : List (Key × D)) (k : Key) (d : D) : List (Key × D) :=
  if (es.any fun kv => decide (kv.1 = k)) = true then es.map (fun kv => if kv.1 = k then (kv.1, d) else kv) else es ++ [(k, d)]
def asK (C : AH) : D → Option (List (Key × D))
  | .dk es => some es
  | .ce p => (match C p with | some (.dk es) => some es | _ => none)
  | _ => none
section
variable {K : PySem.W.Frag} {F F' : Hp} {C : AH} {R H : Hp}
theorem RepK.val (k : Key) : ∀ {vs : List (Key × V)} {ds : List (Key × D)}, RepK K F vs ds → (match valD ds k with | some d => ∃ v, valV vs k = some v ∧ Rep K F v d | none => valV vs k = none)
  | _, _, .nil => rfl
  | (j, v) :: vs, (_, d) :: ds, .cons r t => by
    have ih := RepK.val k t
    unfold valD valV at ih ⊢
    by_cases e : j = k
    · subst e
      simp only [List.find?_cons, decide_true, Option.map_some]
      exact ⟨v, rfl, r⟩
    · simp only [List.find?_cons, decide_eq_false e]
      exact ih
theorem RepK.any (k : Key) : ∀ {vs : List (Key × V)} {ds : List (Key × D)}, RepK K F vs ds → (vs.any fun kv => decide (kv.1 = k)) = ds.any fun kv => decide (kv.1 = k)
  | _, _, .nil => rfl
  | _, _, .cons r t => by rw [List.any_cons, List.any_cons, RepK.any k t]
theorem RepK.repl (k : Key) {v : V} {d : D} (r : Rep K F v d) : ∀ {vs : List (Key × V)} {ds : List (Key × D)}, RepK K F vs ds → RepK K F (vs.map fun kv => if kv.1 = k then (kv.1, v) else kv) (ds.map fun kv => if kv.1 = k then (kv.1, d) else kv)
  | _, _, .nil => .nil
  | (j, _) :: _, _, .cons q t => by
    rw [List.map_cons, List.map_cons]
    by_cases e : j = k
    · rw [if_pos e, if_pos e]; exact .cons r (RepK.repl k r t)
    · rw [if_neg e, if_neg e]; exact .cons q (RepK.repl k r t)
theorem RepK.snoc (k : Key) {v : V} {d : D} (r : Rep K F v d) : ∀ {vs : List (Key × V)} {ds : List (Key × D)}, RepK K F vs ds → RepK K F (vs ++ [(k, v)]) (ds ++ [(k, d)])
  | _, _, .nil => .cons r .nil
  | _, _, .cons q t => .cons q (RepK.snoc k r t)
theorem RepK.put (k : Key) {v : V} {d : D} (r : Rep K F v d) {vs : List (Key × V)} {ds : List (Key × D)} (h : RepK K F vs ds) : RepK K F (putK vs k v) (putD ds k d) := by
  unfold putK putD
  rw [RepK.any k h]
  split
  · exact RepK.repl k r h
  · exact RepK.snoc k r h
end
/-- d[k] -/
def aGetK (o i : AE') : AE' := fun s C P => o s C fun x C1 => i s C1 fun y C2 => match asK C2 x, keyOf y with
  | some es, some k => (match valD es k with | some d => P d C2 | none => False)
  | _, _ => False
section
variable {X : Cx} {pos : Pos} {o i e : Expr} {to ti te : TE} {ao ai a : AE'}
/-- d[k] = e -/
def aPutK (o i e : AE') : AS' := fun E s C => e s C fun d C1 => o s C1 fun x C2 => i s C2 fun y C3 => match x, keyOf y with
  | .ce p, some k => (match C3 p with | some (.dk es) => es.length < sizeLine ∧ E.nx s (put C3 p (.dk (putD es k d))) | _ => False)
  | _, _ => False
end
/-- a, b = x, y -/
def aPar (i j : Nat) (aa : AA') : AS' := fun E s C => aa s C fun ds C1 => match ds with
  | [d, e] => E.nx ((s.set i (some d)).set j (some e)) C1
  | _ => False
section
variable {nx : ASt → AH → Prop} {rt : D → AH → Prop} {bk ct : ASt → AH → Prop} {s : ASt} {C : AH} {P : D → AH → Prop} {aa : AA'} {e : AE'} {i j : Nat} {p : Addr}
def kPar (i j : Nat) (nx : ASt → AH → Prop) (s : ASt) : List D → AH → Prop := fun ds C1 => match ds with
  | [d, e] => nx ((s.set i (some d)).set j (some e)) C1
  | _ => False
theorem g_par (h : aa s C (kPar i j nx s)) : aPar i j aa ⟨nx, rt, bk, ct⟩ s C := (congrArg (aa s C) (by funext ds C1; rfl)).mpr h
theorem g_kPar {d e : D} {s' : ASt} (h0 : (s.set i (some d)).set j (some e) = s') (h : nx s' C) : kPar i j nx s [d, e] C := by
  subst h0
  exact h
theorem g_neg {z : Int} (h : P (.int (-z)) C) : aNeg (.int z) C P := h
def penD (x y z : D) : Cell := .dk [(.inr "script", x), (.inr "at", y), (.inr "left", z)]
theorem g_pen0 {x y z : D} (hi : s[i]? = some (some (.ce p))) (h1 : C p = some (penD x y z)) (h : P x C) : aGetK (aVar i) (aC (.str "script")) s C P := by
  refine g_var hi ?_
  show (match (match C p with | some (.dk es) => some es | _ => none), keyOf (.str "script") with | some es, some k => (match valD es k with | some d => P d C | none => False) | _, _ => False)
  rw [h1]
  exact h
theorem g_pen1 {x y z : D} (hi : s[i]? = some (some (.ce p))) (h1 : C p = some (penD x y z)) (h : P y C) : aGetK (aVar i) (aC (.str "at")) s C P := by
  refine g_var hi ?_
  show (match (match C p with | some (.dk es) => some es | _ => none), keyOf (.str "at") with | some es, some k => (match valD es k with | some d => P d C | none => False) | _, _ => False)
  rw [h1]
  exact h
theorem g_pen2 {x y z : D} (hi : s[i]? = some (some (.ce p))) (h1 : C p = some (penD x y z)) (h : P z C) : aGetK (aVar i) (aC (.str "left")) s C P := by
  refine g_var hi ?_
  show (match (match C p with | some (.dk es) => some es | _ => none), keyOf (.str "left") with | some es, some k => (match valD es k with | some d => P d C | none => False) | _, _ => False)
  rw [h1]
  exact h
def kPut (i : Nat) (x : Str) (nx : ASt → AH → Prop) (s : ASt) : D → AH → Prop := fun d C1 => aVar i s C1 fun x' C2 => match x' with
  | .ce p => (match C2 p with | some (.dk es) => es.length < sizeLine ∧ nx s (put C2 p (.dk (putD es (.inr x) d))) | _ => False)
  | _ => False
theorem g_putK {x : Str} (h : e s C (kPut i x nx s)) : aPutK (aVar i) (aC (.str x)) e ⟨nx, rt, bk, ct⟩ s C := by
  refine (congrArg (e s C) ?_).mpr h
  funext d C1
  refine congrArg (aVar i s C1) ?_
  funext y C2
  cases y <;> rfl
theorem g_kPut1 {x y z d : D} (hi : s[i]? = some (some (.ce p))) (h1 : C p = some (penD x y z)) (h : nx s (put C p (penD x d z))) : kPut i "at" nx s d C := by
  refine g_var hi ?_
  show (match C p with | some (.dk es) => es.length < sizeLine ∧ nx s (put C p (.dk (putD es (.inr "at") d))) | _ => False)
  rw [h1]
  exact ⟨by show 3 < sizeLine; decide, h⟩
theorem g_kPut2 {x y z d : D} (hi : s[i]? = some (some (.ce p))) (h1 : C p = some (penD x y z)) (h : nx s (put C p (penD x y d))) : kPut i "left" nx s d C := by
  refine g_var hi ?_
  show (match C p with | some (.dk es) => es.length < sizeLine ∧ nx s (put C p (.dk (putD es (.inr "left") d))) | _ => False)
  rw [h1]
  exact ⟨by show 3 < sizeLine; decide, h⟩
end
end AL
namespace AL
open PySem PySem.Spec L2
variable {B : Bs}
section
variable {s : ASt} {C : AH} {P : D → AH → Prop} {a e : AE'} {l h : AO'} {PO : Option Int → AH → Prop}
theorem g_sl {r : D → Option Int → Option Int → AH → (D → AH → Prop) → Prop} (h0 : a s C fun x C1 => l s C1 fun i C2 => h s C2 fun j C3 => r x i j C3 P) : aSl r a l h s C P := h0
theorem g_noPart (h0 : PO none C) : aNoPart s C PO := h0
def kPart (PO : Option Int → AH → Prop) : D → AH → Prop := fun x C1 => match x with | .int i => PO (some i) C1 | _ => False
theorem g_part (h0 : e s C (kPart PO)) : aPart e s C PO := (congrArg (e s C) (by funext x C1; cases x <;> rfl)).mpr h0
theorem g_kPart {i : Int} (h0 : PO (some i) C) : kPart PO (.int i) C := h0
theorem cutD_take (ds : List D) (j : Nat) : cutD ds none (some (j : Int)) = ds.take j := by
  unfold cutD
  rw [HT.sIx_none, HT.sIx_nat, List.drop_zero, Nat.sub_zero]
  by_cases hj : j ≤ ds.length
  · rw [Nat.min_eq_left hj]
  · rw [Nat.min_eq_right (by omega), List.take_of_length_le (by omega), List.take_of_length_le (by omega)]
theorem cutD_drop (ds : List D) (j : Nat) : cutD ds (some (j : Int)) none = ds.drop j := by
  unfold cutD
  rw [HT.sIx_none, HT.sIx_nat]
  by_cases hj : j ≤ ds.length
  · rw [Nat.min_eq_left hj, List.take_of_length_le (by rw [List.length_drop]; omega)]
  · rw [Nat.min_eq_right (by omega), List.drop_eq_nil_of_le (Nat.le_refl _), List.drop_eq_nil_of_le (by omega)]
    simp
end
end AL
namespace AL
open PySem PySem.Spec PyProof.Rows L2
variable {B : Bs}
section
variable {X : Cx} {K : PySem.W.Frag}
def signsV (z : Str) : List V := z.cps.toList.map fun c => V.str ⟨#[c]⟩
theorem signs_rep {F : Hp} (z : Str) : RepL K F (signsV z) (signs z) := by
  unfold signsV signs
  induction z.cps.toList with
  | nil => exact .nil
  | cons c l ih => exact .cons (.str _) ih
def aJoin : D → ASp := fun x ds C P => match x, ds with
  | .str a, [d] => (match (asS C d).bind strsD with | some ys => (ys.map (·.length)).sum + ys.length * a.length ≤ 16777216 ∧ P (.str (Txt.join a ys)) C | none => False)
  | _, _ => False
theorem am_join (hK : X.K = K := by rfl) : AMt B X "str.join" (fun x xs H Q => ∃ a p, ∃ ys : List Str, x = .str a ∧ xs = [.ref p] ∧ (SqL K H p (ys.map V.str) ∨ SqT K H p (ys.map V.str)) ∧
    (ys.map (·.length)).sum + ys.length * a.length ≤ 16777216 ∧ Q (.str (Txt.join a ys)) H) aJoin := by
  subst hK
  exact ⟨fun pins s σ H x xs v us Q I r1 r2 h => mt_join pins s σ H x xs v us Q I r1 r2 h, by
  intro v d vs ds F C R H Q P hS r1 r2 h k
  unfold aJoin at h
  split at h
  · cases r1
    cases r2 with
    | cons r2 r3 =>
      cases r3
      split at h
      · rename_i ys e
        obtain ⟨us, e1, e2⟩ := Option.bind_eq_some_iff.mp e
        obtain ⟨a, xs, e3, h1, h2⟩ := asS_ok hS r2 e1
        have e4 := strs_ok e2
        subst e4
        have e5 := h2.ofStrs
        subst e5
        exact ⟨_, a, ys, rfl, by rw [e3], h1, h.1, k _ _ F C H (Ex.refl F) hS (.str _) h.2⟩
      · exact h.elim
  · exact h.elim⟩
def toV : D → Option V
  | .non => some .non
  | .bl b => some (.bl b)
  | .int i => some (.int i)
  | .str x => some (.str x)
  | _ => none
def toVs : List D → Option (List V)
  | [] => some []
  | d :: ds => match toV d, toVs ds with | some v, some vs => some (v :: vs) | _, _ => none
theorem toV_ok {F : Hp} {v u : V} {d : D} (r : Rep K F v d) (h : toV d = some u) : v = u ∧ flatV u = true := by
  cases r <;> simp [toV] at h <;> subst h <;> exact ⟨rfl, rfl⟩
theorem toVs_ok {F : Hp} : ∀ {vs us : List V} {ds : List D}, RepL K F vs ds → toVs ds = some us → vs = us ∧ us.all flatV = true
  | _, _, _, .nil, h => by cases h; exact ⟨rfl, rfl⟩
  | _, us, d :: ds, .cons r t, h => by
    unfold toVs at h
    split at h
    · rename_i v vs e1 e2
      cases h
      obtain ⟨a1, a2⟩ := toV_ok r e1
      obtain ⟨b1, b2⟩ := toVs_ok t e2
      subst a1 b1
      exact ⟨rfl, by simp [a2, b2]⟩
    · cases h
def aIn (neg : Bool) : D → D → AH → (D → AH → Prop) → Prop := fun x y C P => match toV x, (asS C y).bind toVs with
  | some u, some us => P (.bl (if neg then !inV u us else inV u us)) C
  | _, _ => False
abbrev aInL := aIn false
abbrev aNinL := aIn true
theorem sim_in (neg : Bool) : SimR2 B K (rIn K neg) (aIn neg) := by
  intro v w d e F C R H Q P hS r1 r2 h k
  unfold aIn at h
  split at h
  · rename_i u us e1 e2
    obtain ⟨ds, e3, e4⟩ := Option.bind_eq_some_iff.mp e2
    obtain ⟨a, xs, rfl, h1, h2⟩ := asS_ok hS r2 e3
    obtain ⟨a1, a2⟩ := toV_ok r1 e1
    obtain ⟨b1, b2⟩ := toVs_ok h2 e4
    subst a1 b1
    exact ⟨a, xs, rfl, h1, a2, b2, k _ _ F C H (Ex.refl F) hS (.bl _) h⟩
  · exact h.elim
theorem ao_inL (hK : X.K = K := by rfl) : AOp B X (compareOp .In) (rIn K false) aInL := by subst hK; exact ⟨op_in_seq, sim_in false⟩
theorem ao_ninL (hK : X.K = K := by rfl) : AOp B X (compareOp .NotIn) (rIn K true) aNinL := by subst hK; exact ⟨op_notIn_seq, sim_in true⟩
end
section
variable {s : ASt} {C : AH} {P : D → AH → Prop}
theorem g_joinT {a : Str} {ys : List Str} (h1 : (ys.map (·.length)).sum + ys.length * a.length ≤ 16777216) (h : P (.str (Txt.join a ys)) C) : aJoin (.str a) [.tup (ys.map D.str)] C P := by
  show (match strsD (ys.map D.str) with | some ys => _ | none => False)
  rw [strs_map]
  exact ⟨h1, h⟩
end
end AL
namespace AL
open PySem PySem.Spec L2
end AL
namespace AL
open PySem PySem.Spec PyProof.Rows L2
variable {B : Bs}
def okS (z : Str) : Prop := ∀ c ∈ z.cps.toList, c < 0x110000
def One (z : Str) : Prop := ∃ c : Nat, z = ⟨#[c]⟩ ∧ c < 0x110000
abbrev strsL (ys : List Str) : List D := ys.map D.str
theorem len_toList (z : Str) : z.cps.toList.length = z.length := Array.length_toList
theorem One.len {z : Str} (h : One z) : z.length = 1 := by obtain ⟨c, rfl, _⟩ := h; rfl
theorem One.ok {z : Str} (h : One z) : okS z := by
  obtain ⟨c, rfl, hc⟩ := h
  intro d hd
  have : d = c := by simpa using hd
  rw [this]; exact hc
theorem joinL_nil : ∀ ps : List (List Nat), TL.joinL [] ps = ps.flatten
  | [] => rfl
  | [p] => by simp [TL.joinL]
  | p :: q :: r => by
    show p ++ ([] ++ TL.joinL [] (q :: r)) = _
    rw [joinL_nil (q :: r), List.nil_append]
    simp
theorem join_toList (ys : List Str) : (Txt.join "" ys).cps.toList = (ys.map fun y => y.cps.toList).flatten := by
  rw [TL.join_eq]
  have h := TL.tl_join "" ys
  have e : TL.tl "" = [] := by decide +kernel
  rw [e, joinL_nil] at h
  exact h
theorem join_len (ys : List Str) : (Txt.join "" ys).length = (ys.map (·.length)).sum := by
  rw [← len_toList, join_toList, List.length_flatten, List.map_map]
  congr 1
section
variable {C : AH} {P : D → AH → Prop}
theorem len_empty : ("" : Str).length = 0 := by decide +kernel
theorem g_joinET {ys : List Str} (h1 : (ys.map (·.length)).sum ≤ 16777216) (h : P (.str (Txt.join "" ys)) C) : aJoin (.str "") [.tup (strsL ys)] C P := g_joinT (by rw [len_empty]; omega) h
end
end AL
namespace AL
open PySem PySem.Spec PyProof.Rows L2
end AL
namespace AL
open PySem PySem.Spec PyProof.Rows L2
end AL
namespace AL
open PySem PySem.Spec PyProof.Rows L2
end AL
namespace AL
open PySem PySem.Spec PyProof.Rows L2
end AL
namespace AL
open PySem
def Keep (C C' : AH) : Prop := ∀ r c, C r = some c → C' r = some c
theorem Keep.trans {C C1 C2 : AH} (a : Keep C C1) (b : Keep C1 C2) : Keep C C2 := fun r c h => b r c (a r c h)
theorem Keep.put {C C' : AH} {q : Addr} {c : Cell} (h : Keep C C') (hq : C q = none) : Keep C (AL.put C' q c) := fun r d e => by rw [put_ne (ne_cell e hq)]; exact h r d e
theorem Keep.del {C C' : AH} {q : Addr} (h : Keep C C') (hq : C q = none) : Keep C (AL.del C' q) := fun r d e => by
  unfold AL.del
  rw [if_neg (ne_cell e hq)]
  exact h r d e
theorem Keep.none {C C' : AH} {q : Addr} (h : Keep C C') (hq : C' q = Option.none) : C q = Option.none := by
  cases e : C q with
  | none => rfl
  | some c => rw [h q c e] at hq; cases hq
/-- all but p -/
def Oth (p : Addr) (C C' : AH) : Prop := ∀ r c, r ≠ p → C r = some c → C' r = some c
theorem Oth.refl (p : Addr) (C : AH) : Oth p C C := fun _ _ _ h => h
theorem Oth.trans {p : Addr} {C C1 C2 : AH} (a : Oth p C C1) (b : Oth p C1 C2) : Oth p C C2 := fun r c n h => b r c n (a r c n h)
theorem Oth.of {p : Addr} {C C' : AH} (a : Keep C C') : Oth p C C' := fun r c _ h => a r c h
theorem Oth.pen {p : Addr} {C C' : AH} {c : Cell} (h : Oth p C C') : Oth p C (AL.put C' p c) := fun r d n e => by rw [put_ne n]; exact h r d n e
theorem Oth.put {p q : Addr} {C C' : AH} {c : Cell} (h : Oth p C C') (hq : C q = none) : Oth p C (AL.put C' q c) := fun r d n e => by rw [put_ne (ne_cell e hq)]; exact h r d n e
theorem Oth.del {p q : Addr} {C C' : AH} (h : Oth p C C') (hq : C q = none) : Oth p C (AL.del C' q) := fun r d n e => by
  unfold AL.del
  rw [if_neg (ne_cell e hq)]
  exact h r d n e
theorem Oth.none {p q : Addr} {C C' : AH} (h : Oth p C C') (hn : q ≠ p) (hq : C' q = Option.none) : C q = Option.none := by
  cases e : C q with
  | none => rfl
  | some c => rw [h q c hn e] at hq; cases hq
end AL
namespace AL
open PySem PySem.Spec PyProof.Rows L2
section
variable {P : Program} {w : World} {K : PySem.W.Frag} {mg mb : Str → Option Value} {k : Nat} {fa a : Addr} {fd : FuncData} {x : Str} {sp : Sp} {s₁ : Shared} {vs : List Value} {ns : List Int}
theorem core_G (hns : s₁.heap.Ns mainGlobals mg) (hb : s₁.heap.Ns builtinsNs mb) (hbb : ∀ x : Str, x ≠ "__name__" → mb x = bootBuiltins x) (hlim : s₁.heap.NoLimit) (hg : s₁.gens = #[]) (KX : K.In s₁.heap)
    (ha : s₁.heap.get? a = some { cls := .type "list", data := .seq vs.toArray }) (hr : Room k callerA)
    (F : ∀ base : Heap, K.In base → base.Ns mainGlobals mg → FnG P w K mg base k fa fd [x] sp) (hbind : ∀ (s : Shared) (u : Value), BindsTo s fd ⟨[u], []⟩ [(x, u)])
    {H : Hp} (hO : Only H) (hsp : sp [.ref a] H (fun v _ => v = .bl true) fun _ _ _ => False) (hok : HOk P w H s₁.heap) (hA : ∀ b, H b ≠ none → b = a) (hK : H a ≠ none → K.lookup a = none) :
    codeAny (model P w) callerA (.call (.ref fa) ⟨[.ref a], []⟩) (fun r s' => r = .ok (.ret (.bool true)) ∧ OldK s₁.heap s'.heap ∧ s'.os = s₁.os ∧ AllBare s'.gens) s₁ := by
  have free : ∀ {b : Addr} {o : Obj}, s₁.heap.get? b = some o → (b = a → False) → H b = none := fun {b o} e n => by
    cases q : H b with
    | none => rfl
    | some u => exact (n (hA b (by rw [q]; simp))).elim
  have dictFree : ∀ {b : Addr} {m : Str → Option Value}, s₁.heap.Ns b m → (hidT s₁.heap H).Ns b m := by
    rintro b m ⟨o, es, ep, e, d, r⟩
    refine ⟨o, es, ep, hidT_get e (free e fun z => ?_), d, r⟩
    subst z
    rw [ha] at e
    cases e
    cases (show Data.seq vs.toArray _ = Data.dict es ep from d)
  have kin : K.In (hidT s₁.heap H) := fun b o e => hidT_get (KX b o e) (by
    cases q : H b with
    | none => rfl
    | some u =>
      have z : b = a := hA b (by rw [q]; simp)
      subst z
      rw [hK (by rw [q]; simp)] at e
      cases e)
  obtain ⟨mc, l1, l2⟩ := hlim
  have md : Mod K mg (hidT s₁.heap H) := ⟨kin, dictFree hns, ⟨mb, dictFree hb, hbb⟩, ⟨mc, dictFree l1, l2⟩⟩
  have e0 : Env0 P w K mg (hidT s₁.heap H) callerA [] s₁ H :=
    { frames := rfl, mod := md, bs := fun b o e => of_hidT e, bsz := Nat.le_of_eq (hidT_size _ _), funs := trivial, frf := fun b z => (by cases z), hok := hok, bare := .of_eq hg }
  refine codeAny_mono ((F _ kin (dictFree hns)).run callerA [] s₁ H ⟨[.ref a], []⟩ [.ref a] [.ref a] _ _ hr rfl e0 (hbind s₁ (.ref a)) (.cons rfl .nil) hsp) fun res s2 z => ?_
  match res, z with
  | .error e, z =>
    obtain ⟨_, _, _, _, _, _, _, _, _, _, _, _, z⟩ := z
    exact z.elim
  | .ok .next, z => exact False.elim z
  | .ok .brk, z => exact False.elim z
  | .ok .cont, z => exact False.elim z
  | .ok (.ret u), z =>
    obtain ⟨v, H2, os, bare, un, hok2, r, q⟩ := z
    cases (show v = .bl true from q)
    obtain rfl : u = Value.bool true := r
    refine ⟨rfl, OldK.of_keep fun b o e => ?_, os, bare⟩
    rcases hO b with z | ⟨ob, xs, z⟩
    · exact un.keep b o e z (by intro y; cases y) (by simp)
    · have e1 := (hok b _ z).1
      have e2 := (hok2 b _ (un.frzs b ob _ z)).1
      rw [e] at e1
      cases e1
      exact e2
theorem law_G (KX : K.In s₁.heap) (hns : s₁.heap.Ns mainGlobals mg) (hb : s₁.heap.Ns builtinsNs mb) (hbb : ∀ x : Str, x ≠ "__name__" → mb x = bootBuiltins x) (hlim : s₁.heap.NoLimit) (hg : s₁.gens = #[])
    (ha : s₁.heap.get? a = some { cls := .type "list", data := .seq vs.toArray }) (hi : IntsAre vs ns) (hl : ns.length ≤ sizeLine) (hr : Room k callerA)
    (F : ∀ base : Heap, K.In base → base.Ns mainGlobals mg → FnG P w K mg base k fa fd [x] sp) (hbind : ∀ (s : Shared) (u : Value), BindsTo s fd ⟨[u], []⟩ [(x, u)])
    (hsp : ∀ H : Hp, Only H → SqL K H a (ns.map V.int) → sp [.ref a] H (fun v _ => v = .bl true) fun _ _ _ => False) :
    codeAny (model P w) callerA (.call (.ref fa) ⟨[.ref a], []⟩) (fun r s' => r = .ok (.ret (.bool true)) ∧ OldK s₁.heap s'.heap ∧ s'.os = s₁.os ∧ AllBare s'.gens) s₁ := by
  have go := fun {H : Hp} (hO : Only H) (hS : SqL K H a (ns.map V.int)) => core_G hns hb hbb hlim hg KX ha hr F hbind hO (hsp H hO hS)
  cases hk : K.lookup a with
  | some o =>
    have e := KX a o hk
    rw [ha] at e
    cases e
    refine go (H := fun _ => none) (fun _ => .inl rfl) (.inr ⟨_, vs.toArray, _, hk, rfl, rfl, rfl, ?_, ?_⟩) (fun b u z => ?_) (fun b z => (z rfl).elim) fun z => (z rfl).elim
    · rw [List.size_toArray, hi.length]; exact hl
    · simpa using vals_ints hi
    · cases (show (none : Option HO) = some u from z)
  | none =>
    let oL : Obj := { cls := .type "list", data := .seq vs.toArray }
    let H0 : Hp := fun b => if b = a then some (.frz oL (.lst (ns.map V.int))) else none
    have at_a : H0 a = some (.frz oL (.lst (ns.map V.int))) := if_pos rfl
    have off : ∀ b, b ≠ a → H0 b = none := fun b n => if_neg n
    refine go (H := H0) (fun b => ?_) (.inl (.inr ⟨oL, at_a⟩)) (fun b u z => ?_) (fun b z => ?_) fun _ => hk
    · by_cases n : b = a
      · rw [n]; exact .inr ⟨_, _, at_a⟩
      · exact .inl (off b n)
    · by_cases n : b = a
      · subst n
        rw [at_a] at z
        cases z
        exact ⟨ha, by rw [List.length_map]; exact hl, vs, _, vals_ints hi, ha⟩
      · rw [off b n] at z; cases z
    · by_cases n : b = a
      · exact n
      · exact (z (off b n)).elim
end
theorem walk_G {l : PySem.W.OpenLaw} {n k : Nat} {q : Program} {loose : List Str} {XP : (Str → Option Value) → Heap → Prop} {YP : World → Heap → Prop} {d : DefRec} {K : Params → PySem.W.Frag} {sp : World → (Str → Option Value) → Sp} {x : Str}
    (hn : l.most = some n) (hn2 : n ≤ sizeLine) (hdf : d.params.defaults = []) (hr : Room k callerA) (hY : ∀ (w : World) (h : Heap), YP w h → (K w.params).In h)
    (F : ∀ (w : World) (mg : Str → Option Value) (fa : Addr) (h : Heap), (K w.params).In h → h.Ns mainGlobals mg → mg d.name = some (.ref fa) →
      ∃ fd : FuncData, (∀ (s : Shared) (u : Value), BindsTo s fd ⟨[u], []⟩ [(x, u)]) ∧ ∀ base : Heap, (K w.params).In base → base.Ns mainGlobals mg → FnG l.prog w (K w.params) mg base k fa fd [x] (sp w mg))
    (hsp : ∀ (w : World) (mg : Str → Option Value) (H : Hp) (a : Addr) (ns : List Int), ns.length ≤ n → Only H → SqL (K w.params) H a (ns.map V.int) → sp w mg [.ref a] H (fun v _ => v = .bl true) fun _ _ _ => False) :
    PySem.W.WalkO q loose XP YP l.row.toRowW d [] (fun f vs => PySem.call f vs) :=
  Att.attach_call hn hdf fun w s₀ s₁ mg mb fa o pm cd doc a vs ns G Y ho hd hcd hmg hobj hints hlen hg => by
    obtain ⟨fd, hb, hF⟩ := F w mg fa _ (hY w _ Y) G.T.g hmg
    exact law_G (hY w _ Y) G.T.g G.T.b G.T.builtins G.T.nolimit hg hobj hints (Nat.le_trans hlen hn2) hr hF hb fun H hO hS => hsp w mg H a ns hlen hO hS
end AL
namespace AL
open PySem PySem.Spec PyProof.Rows L2
end AL
namespace AL
open PySem PySem.Spec PyProof.Rows L2
variable {B : Bs}
mutual
def D.pe : D → Option PyData
  | .non => some .none
  | .bl b => some (.bool b)
  | .int i => some (.int i)
  | .str x => some (.str x)
  | .lst ds => (peL ds).map .list
  | .tup ds => (peL ds).map .tuple
  | .dk es => (peK es).map .dict
  | _ => none
def peL : List D → Option (List PyData)
  | [] => some []
  | d :: ds => match D.pe d, peL ds with | some x, some xs => some (x :: xs) | _, _ => none
def peK : List (Key × D) → Option (List (PyData × PyData))
  | [] => some []
  | (k, d) :: es => match D.pe d, peK es with | some x, some xs => some ((match k with | .inl i => PyData.int i | .inr z => PyData.str z, x) :: xs) | _, _ => none
end
section
variable {X : Cx} {K : PySem.W.Frag} {pins : List (Addr × Obj)} {σ : L2.St} {H F : Hp} {s : Shared}
/-- shown, one way or another -/
def Shw (X : Cx) (h : Heap) (u : Value) (x : PyData) : Prop := (∃ as, Reads h u x as) ∧ ∃ bs, ReadAtMost h x.depth bs ∧ ReprK X.prog X.w bs h x.depth u x.shown
def ShwL (X : Cx) (h : Heap) (us : List Value) (xs : List PyData) : Prop := (∃ as, ReadsAll h us xs as) ∧ ∃ bs, ReadAtMost h (PyData.depthAll xs) bs ∧ ReprAllK X.prog X.w bs h (PyData.depthAll xs) us (PyData.shownAll xs)
theorem ShwL.nil {h : Heap} : ShwL X h [] [] := ⟨⟨_, .nil⟩, [], fun _ z => (by cases z), by simp only [PyData.shownAll]; exact .nil⟩
theorem ShwL.cons {h : Heap} {u : Value} {us : List Value} {x : PyData} {xs : List PyData} (a : Shw X h u x) (b : ShwL X h us xs) : ShwL X h (u :: us) (x :: xs) := by
  obtain ⟨⟨_, r1⟩, b1, m1, k1⟩ := a
  obtain ⟨⟨_, r2⟩, b2, m2, k2⟩ := b
  have ed : PyData.depthAll (x :: xs) = max x.depth (PyData.depthAll xs) := by simp only [PyData.depthAll]
  refine ⟨⟨_, .cons r1 r2⟩, b1 ++ b2, ?_, ?_⟩
  · rw [ed]
    exact (m1.mono (Nat.le_max_left _ _)).append (m2.mono (Nat.le_max_right _ _))
  · rw [ed]
    simp only [PyData.shownAll]
    exact .cons ((k1.more fun z hz => List.mem_append_left _ hz).level_le (Nat.le_max_left _ _)) (k2.more_le (fun z hz => List.mem_append_right _ hz) (Nat.le_max_right _ _))
end
def blkKey : Key → Nat
  | .inl _ => 0
  | .inr x => x.length
mutual
def blk : D → Nat
  | .str x => x.length
  | .lst ds => blks ds
  | .tup ds => blks ds
  | .dk es => blkk es
  | _ => 0
def blks : List D → Nat
  | [] => 0
  | d :: ds => blk d + 1 + blks ds
def blkk : List (Key × D) → Nat
  | [] => 0
  | (k, d) :: es => blkKey k + blk d + 2 + blkk es
end
section
variable {X : Cx} {K : PySem.W.Frag}
def aDict0F : AE' := fun _ C P => P (.dk []) C
theorem ae_dict0F {pos : Pos} : AE B X (.Dict [] [] pos) tDNewK aDict0F := ⟨pe_dnewK, fun σ s F C R H Q P hs hS h k p hp => by
  have eN := Ex.new (o := .dK []) (hS.freeF hp)
  exact k _ _ _ C _ eN (hS.newF hp _) (.dk upd_same .nil) h⟩
end
end AL
namespace AL
open PySem PySem.Spec PyProof.Rows L2
end AL
namespace AL
open PySem PySem.Spec PyProof.Rows L2
variable {B : Bs}
section
variable {X : Cx} {K : PySem.W.Frag}
def timesL (x : Str) (n : Nat) : Str := ⟨(List.replicate n x.cps).foldl (· ++ ·) #[]⟩
theorem timesF_toList (l : List (Array Nat)) : ∀ acc : Array Nat, (l.foldl (· ++ ·) acc).toList = acc.toList ++ (l.map Array.toList).flatten := by
  induction l with
  | nil => intro acc; simp
  | cons a l ih => intro acc; simp [ih]
theorem timesL_toList (x : Str) (n : Nat) : (timesL x n).cps.toList = (List.replicate n x.cps.toList).flatten := by
  unfold timesL
  rw [timesF_toList]
  simp
theorem timesL_len (x : Str) (n : Nat) : (timesL x n).length = n * x.length := by
  show (timesL x n).cps.size = _
  rw [← Array.length_toList, timesL_toList, List.length_flatten, List.map_replicate]
  simp
  rfl
theorem timesL_one (x : Str) : timesL x 1 = x := by
  have : (timesL x 1).cps.toList = x.cps.toList := by rw [timesL_toList]; simp
  cases x with
  | mk c =>
    have := Array.toList_inj.mp this
    show Str.mk _ = _
    exact congrArg Str.mk this
def rMulS : R2 := fun x y H Q => ∃ z n, x = .str z ∧ y = .int n ∧ -1000000 ≤ n ∧ n ≤ 1000000 ∧ z.length * n.toNat ≤ 16000000 ∧ Q (.str (timesL z n.toNat)) H
theorem op_mulS : OpR X (binaryOp .Mult) rMulS := by
  intro pins s σ H x y v u Q I rx ry h
  obtain ⟨z, n, rfl, rfl, h1, h2, h3, q⟩ := h
  obtain ⟨t, rfl⟩ := rx
  obtain ⟨t2, rfl⟩ := ry
  have fin : ∀ (tk t3 : Tok) (y : Str), y = timesL z n.toNat → EP X pins σ Q (.str y t3) { s with toks := tk } := fun tk t3 y e => ⟨.str _, H, I.tok _, ⟨_, rfl⟩, by rw [e]; exact q⟩
  refine P.mul_str ?_ (fun a _ => ?_) (fun a _ => ?_) ?_
  · rw [decide_eq_false (by omega), decide_eq_false (by omega)]; rfl
  · have hl : z.length ≤ z.length * n.toNat := Nat.le_mul_of_pos_right _ (by omega)
    have e : (2 ^ 63 - 1) / (1000000 : Int) ≤ (2 ^ 63 - 1) / n := by
      refine (Int.le_ediv_iff_mul_le (by omega)).mpr ?_
      have : (2 ^ 63 - 1) / (1000000 : Int) * n ≤ (2 ^ 63 - 1) / (1000000 : Int) * 1000000 := Int.mul_le_mul_of_nonneg_left h2 (by decide)
      have : (2 ^ 63 - 1) / (1000000 : Int) * 1000000 ≤ 2 ^ 63 - 1 := by decide
      omega
    have e2 : (16000000 : Int) ≤ (2 ^ 63 - 1) / (1000000 : Int) := by decide
    omega
  · unfold Builtin.Str.tooLong
    rw [decide_eq_false_iff_not, sizeLine_eq]
    omega
  · split
    · rename_i a
      refine ⟨by decide, fin _ _ _ ?_⟩
      rw [show n.toNat = 0 by omega]
      rfl
    · rename_i a
      split
      · rename_i b
        refine fin _ _ _ ?_
        simp only [Bool.or_eq_true, beq_iff_eq] at b
        rcases b with b | b
        · subst b; exact (timesL_one z).symm
        · have e : (timesL z n.toNat).length = 0 := by rw [timesL_len, b, Nat.mul_zero]
          cases z with
          | mk c =>
            have c0 : c = #[] := Array.eq_empty_of_size_eq_zero b
            have d0 : (timesL ⟨c⟩ n.toNat).cps = #[] := Array.eq_empty_of_size_eq_zero e
            show Str.mk c = timesL ⟨c⟩ n.toNat
            rw [c0] at d0 ⊢
            exact congrArg Str.mk d0.symm
      · refine ⟨?_, fin _ _ _ rfl⟩
        show (timesL z n.toNat).length ≤ sizeLine
        rw [timesL_len, sizeLine_eq, Nat.mul_comm]
        omega
def aMulS : D → D → AH → (D → AH → Prop) → Prop := fun x y C P => match x, y with
  | .str z, .int n => -1000000 ≤ n ∧ n ≤ 1000000 ∧ z.length * n.toNat ≤ 16000000 ∧ P (.str (timesL z n.toNat)) C
  | _, _ => False
theorem ao_mulS : AOp B X (binaryOp .Mult) rMulS aMulS := ⟨op_mulS, by
  intro v w d e F C R H Q P hS r1 r2 h k
  unfold aMulS at h
  split at h
  · cases r1; cases r2
    exact ⟨_, _, rfl, rfl, h.1, h.2.1, h.2.2.1, k _ _ F C H (Ex.refl F) hS (.str _) h.2.2.2⟩
  · exact h.elim⟩
theorem g_mulS {C : AH} {P : D → AH → Prop} {z : Str} {n : Nat} (h1 : n ≤ 1000000) (h2 : z.length * n ≤ 16000000) (h : P (.str (timesL z n)) C) : aMulS (.str z) (.int n) C P := ⟨by omega, by omega, h2, h⟩
end
end AL
namespace AL
open PySem PySem.Spec PyProof.Rows L2
variable {B : Bs}
inductive Src where
  | ls (a : Addr) | tp (a : Addr) | tx (z : Str)
def Src.holds (K : PySem.W.Frag) (H : Hp) : Src → List V → Prop
  | .ls a, xs => SqL K H a xs
  | .tp a, xs => SqT K H a xs
  | .tx z, xs => xs = signsV z
def Src.v : Src → V
  | .ls a => .ref a
  | .tp a => .ref a
  | .tx z => .str z
/-- the iterator at it, i items taken -/
def Src.iter (h : Heap) (it : Addr) (i : Nat) : Src → Prop
  | .ls a => h.IsListIter it a i
  | .tp a => h.IsTupleIter it a i
  | .tx z => ∃ t, h.IsStrIter it (strIterType z) z t i
def Src.ref : Src → Option Addr
  | .ls a => some a
  | .tp a => some a
  | .tx _ => none
theorem Src.iter_at {h h' : Heap} {it : Addr} {i : Nat} : ∀ {x : Src}, x.iter h it i → (∀ o, h.get? it = some o → h'.get? it = some o) → x.iter h' it i
  | .ls a, st, k => st.at k
  | .tp a, st, k => st.at k
  | .tx z, ⟨t, o, e, c, d⟩, k => ⟨t, o, k _ e, c, d⟩
theorem Src.iter_obj {h : Heap} {it : Addr} {i : Nat} : ∀ {x : Src}, x.iter h it i → ∃ o, h.get? it = some o ∧ ∀ v, o.data ≠ .cell v
  | .ls a, ⟨o, e, _, d⟩ => ⟨o, e, fun v q => by rw [d] at q; cases q⟩
  | .tp a, ⟨o, e, _, d⟩ => ⟨o, e, fun v q => by rw [d] at q; cases q⟩
  | .tx z, ⟨t, o, e, _, d⟩ => ⟨o, e, fun v q => by rw [d] at q; cases q⟩
section
variable {X : Cx} {pins : List (Addr × Obj)} {σ : L2.St} {H : Hp} {s : Shared}
theorem vals_back : ∀ {xs : List V} {us : List Value} {i : Nat} {u : Value}, Vals xs us → us[i]? = some u → ∃ x, xs[i]? = some x ∧ RelV x u
  | _, _, _, _, .nil, e => by simp at e
  | _, _, 0, _, .cons r _, e => by simp at e; subst e; exact ⟨_, rfl, r⟩
  | _, _, i + 1, u, .cons _ t, e => by
    obtain ⟨x, h1, h2⟩ := vals_back (i := i) (u := u) t (by simpa using e)
    exact ⟨x, by simpa using h1, h2⟩
theorem Src.inj (I : Inv X pins σ H s) : ∀ {x : Src} {xs ys : List V}, x.holds X.K H xs → x.holds X.K H ys → xs = ys
  | .ls a, _, _, h, g => I.list_inj h g
  | .tp a, _, _, h, g => I.tuple_inj h g
  | .tx z, _, _, h, g => h.trans g.symm
/-- one step's draws -/
structure Drw (X : Cx) (A : Around) (x : Src) (xs : List V) (it : Addr) (fp : List Addr) (P : Nat → Value → Prop) (St : Nat → Heap → Prop) : Prop where
  D : Draws X.prog X.w A it fp xs.length P St
  val : ∀ i u, P i u → ∃ v, xs[i]? = some v ∧ RelV v u
  back : ∀ i h, St i h → x.iter h it i
  mem : it ∈ fp
  low : ∀ h i, St i h → ∀ b ∈ fp, b < h.objs.size
  sub : ∀ b ∈ fp, b = it ∨ x.ref = some b
theorem Src.drw (I : Inv X pins σ H s) {A : Around} (hh : A.handled = none) {it : Addr} {i : Nat} : ∀ {x : Src} {xs : List V}, x.holds X.K H xs → x.iter s.heap it i → x.ref ≠ some it → ∃ fp P St, Drw X A x xs it fp P St ∧ St i s.heap
  | .ls a, xs, h, st, hn => by
    obtain ⟨its, rv, p, _⟩ := I.list h
    have l := rv.length
    have hne : a ≠ it := fun z => hn (by rw [z]; rfl)
    have D := Draws.list (prog := X.prog) (w := X.w) hh it a hne its.toArray
    rw [show its.toArray.size = xs.length by simpa using l.symm] at D
    refine ⟨_, _, _, ⟨D, fun j u hu => ?_, fun j h st => st.1, by simp, fun h j st b hb => ?_, fun b hb => ?_⟩, st, p.isList⟩
    · obtain ⟨v, h1, h2⟩ := vals_back rv (by simpa using hu)
      exact ⟨v, h1, h2⟩
    · have e : b = it ∨ b = a := by simpa using hb
      obtain ⟨⟨o, e1, _⟩, ⟨o2, e2, _⟩⟩ := st
      rcases e with z | z
      · rw [z]; exact Heap.lt_size e1
      · rw [z]; exact Heap.lt_size e2
    · have e : b = it ∨ b = a := by simpa using hb
      exact e.imp id fun z => by rw [z]; rfl
  | .tp a, xs, h, st, hn => by
    obtain ⟨its, rv, p, _⟩ := I.tuple h
    have l := rv.length
    have hne : a ≠ it := fun z => hn (by rw [z]; rfl)
    have D := Draws.tuple (prog := X.prog) (w := X.w) hh it a hne its.toArray
    rw [show its.toArray.size = xs.length by simpa using l.symm] at D
    refine ⟨_, _, _, ⟨D, fun j u hu => ?_, fun j h st => st.1, by simp, fun h j st b hb => ?_, fun b hb => ?_⟩, st, p⟩
    · obtain ⟨v, h1, h2⟩ := vals_back rv (by simpa using hu)
      exact ⟨v, h1, h2⟩
    · have e : b = it ∨ b = a := by simpa using hb
      obtain ⟨⟨o, e1, _⟩, ⟨o2, e2, _⟩⟩ := st
      rcases e with z | z
      · rw [z]; exact Heap.lt_size e1
      · rw [z]; exact Heap.lt_size e2
    · have e : b = it ∨ b = a := by simpa using hb
      exact e.imp id fun z => by rw [z]; rfl
  | .tx z, xs, h, ⟨t, st⟩, hn => by
    have h : xs = signsV z := h
    have D := Draws.text (prog := X.prog) (w := X.w) hh it z t
    have l : xs.length = z.cps.size := by rw [h]; unfold signsV; rw [List.length_map, Array.length_toList]
    rw [← l] at D
    refine ⟨_, _, _, ⟨D, fun j u hu => ?_, fun j h st => ⟨t, st⟩, by simp, fun h j st b hb => ?_, fun b hb => .inl (by simpa using hb)⟩, st⟩
    · obtain ⟨c, t2, hc, rfl⟩ := hu
      refine ⟨.str ⟨#[c]⟩, ?_, t2, rfl⟩
      rw [h]
      unfold signsV
      rw [List.getElem?_map, Array.getElem?_toList, hc]
      rfl
    · have e : b = it := by simpa using hb
      obtain ⟨o, e1, _⟩ := st
      rw [e]; exact Heap.lt_size e1
/-- how a source's iterator begins -/
theorem Src.begins (I : Inv X pins σ H s) : ∀ {x : Src} {xs : List V} {u : Value}, x.holds X.K H xs → RelV x.v u → ∃ o Hh, Begins u o Hh ∧ Hh s.heap ∧ ∀ (h : Heap) (it : Addr), h.get? it = some o → x.iter h it 0
  | .ls a, xs, u, h, r => by
    cases r
    obtain ⟨its, rv, p, _⟩ := I.list h
    exact ⟨_, _, begins_list a its.toArray, p.isList, fun h it e => ⟨_, e, rfl, rfl⟩⟩
  | .tp a, xs, u, h, r => by
    cases r
    obtain ⟨its, rv, p, _⟩ := I.tuple h
    exact ⟨_, _, begins_tuple a its.toArray, p, fun h it e => ⟨_, e, rfl, rfl⟩⟩
  | .tx z, xs, u, h, r => by
    obtain ⟨t, rfl⟩ := r
    exact ⟨_, _, begins_text z t, trivial, fun h it e => ⟨t, _, e, rfl, rfl⟩⟩
theorem Src.low (I : Inv X pins σ H s) : ∀ {x : Src} {xs : List V} {a : Addr}, x.holds X.K H xs → x.ref = some a → a < s.heap.objs.size
  | .ls a, xs, b, h, e => by
    cases e
    obtain ⟨its, rv, p, _⟩ := I.list h
    obtain ⟨o, e, _⟩ := p.isList
    exact Heap.lt_size e
  | .tp a, xs, b, h, e => by
    cases e
    obtain ⟨its, rv, ⟨o, e, _⟩, _⟩ := I.tuple h
    exact Heap.lt_size e
  | .tx z, xs, b, h, e => by cases e
def IteG (K : PySem.W.Frag) (a : Src) : It :=
  ⟨fun i H => ∃ (xs : List V) (x : V), a.holds K H xs ∧ xs[i]? = some x,
    fun i H v H' => ∃ T x, v = .ref T ∧ H T = none ∧ H' = upd H T (.tup [.int (i : Nat), x]) ∧ ∀ xs, a.holds K H xs → xs[i]? = some x,
    fun i H => ∃ xs : List V, a.holds K H xs ∧ i = xs.length⟩
theorem turn_enumG {P : Program} {w : World} {K : PySem.W.Frag} {elts : List Expr} {kk : Nat} {tpos : Pos} {a : Src} {e it : Addr} (hne : e ≠ it) (ra : ∀ c ∈ [e, it], a.ref ≠ some c) :
    Turn P w K (.Tuple elts kk tpos) (IteG K a) [e, it] e (fun i h => (∃ old, IsEnum h e it ((i : Nat) : Int) old) ∧ a.iter h it i) where
  mem := by simp
  obj := fun i h st c hc => by
    obtain ⟨⟨old, he⟩, h1⟩ := st
    simp only [List.mem_cons, List.not_mem_nil, or_false] at hc
    rcases hc with q | q <;> rw [q]
    · exact ⟨_, he, fun v q => nomatch q⟩
    · exact Src.iter_obj h1
  keep := fun i h h' st k => ⟨let ⟨old, he⟩ := st.1; ⟨old, k e (by simp) _ he⟩, Src.iter_at st.2 fun o q => k it (by simp) o q⟩
  item := by
    intro X hP hw hK hc i pins s σ H E I hf st hg
    subst hP hw hK
    obtain ⟨⟨old, he⟩, h1⟩ := st
    obtain ⟨xs, x, hqx, hx⟩ := hg
    have hh : X.A.in1.handled = none := I.ok.hd hc
    obtain ⟨fp1, P1, St1, D1, st1⟩ := Src.drw I hh hqx h1 (ra it (by simp))
    have G := GoesN.enumFrom (elts := elts) (x1 := kk) (pos := tpos) 0 D1.D e hne (fun hm => (D1.sub _ hm).elim hne (ra e (by simp))) D1.mem
    have lx := (List.getElem?_eq_some_iff.mp hx).1
    refine wpAny_mono (G.goes i s (fun v s2 => ∃ x H', Inv X pins σ H' s2 ∧ RelV x v ∧ (IteG X.K a).yld i H x H' ∧ ((∃ old, IsEnum s2.heap e it ((i + 1 : Nat) : Int) old) ∧ a.iter s2.heap it (i + 1)) ∧ ∀ b ∈ [e, it], H' b = none) E lx ⟨⟨old, by rw [Int.zero_add]; exact he⟩, st1⟩ fun v h' tk Y St' keep _ => ?_) (fun r s1 h => ?_) (fun _ _ h => h)
    · obtain ⟨T, t, u1, rfl, hT, p1, tT⟩ := Y
      obtain ⟨v1, e1, r1⟩ := D1.val i u1 p1
      obtain ⟨o, ho, hcl, n, hd⟩ := id tT
      have new : ObjOk X.prog X.w (upd H T (.tup [.int (i : Nat), v1])) h' T (.tup [.int (i : Nat), v1]) := ⟨by show 2 ≤ sizeLine; decide, [.int (0 + (i : Int)) t, u1], .cons ⟨t, by rw [Int.zero_add]⟩ (.cons r1 .nil), ⟨o, ho, hcl, n, hd⟩⟩
      have I1 : Inv X pins σ (upd H T (.tup [.int (i : Nat), v1])) { s with heap := h', toks := tk } := I.turnedNew (ch := [e, it]) (fun c o hb q => keep c o hb q) hf hT new
      obtain ⟨⟨old2, a1⟩, a4⟩ := St'
      rw [Int.zero_add] at a1
      refine ⟨.ref T, _, I1, rfl, ⟨T, v1, rfl, I.hok.fresh hT, rfl, fun l hl => by rw [Src.inj I hl hqx]; exact e1⟩, ⟨⟨old2, a1⟩, D1.back _ _ a4⟩, fun c hcm => ?_⟩
      have hlt : c < s.heap.objs.size := by
        simp only [List.mem_cons, List.not_mem_nil, or_false] at hcm
        rcases hcm with q | q <;> rw [q]
        · exact Heap.lt_size he
        · exact D1.low _ _ st1 _ D1.mem
      rw [upd_ne (Nat.ne_of_lt (Nat.lt_of_lt_of_le hlt hT))]
      exact (hf c hcm).1
    · obtain ⟨v, e, q⟩ := h
      exact ⟨v, e, q⟩
  done := by
    intro X hP hw hK hc i pins s σ H E I hf st hg
    subst hP hw hK
    obtain ⟨⟨old, he⟩, h1⟩ := st
    obtain ⟨xs, hqx, hend⟩ := hg
    have hh : X.A.in1.handled = none := I.ok.hd hc
    obtain ⟨fp1, P1, St1, D1, st1⟩ := Src.drw I hh hqx h1 (ra it (by simp))
    have G := GoesN.enumFrom (elts := elts) (x1 := kk) (pos := tpos) 0 D1.D e hne (fun hm => (D1.sub _ hm).elim hne (ra e (by simp))) D1.mem
    subst hend
    exact G.stops s _ E ⟨⟨old, by rw [Int.zero_add]; exact he⟩, st1⟩ fun h' tk keep _ => I.turnedL (ch := [e, it]) (fun c o hb q => keep c o hb q) hf
  self := fun A i s Q E st h => let ⟨⟨_, he⟩, _⟩ := st; wpAny_pyIter_enum he h
theorem meets_enum1 {v : Value} {o : Obj} {Hh : Heap → Prop} (B : Begins v o Hh) : Meets (Builtin.«enumerate.__new__» ⟨[.type "enumerate", v], []⟩) (fun _ R s => Hh s.heap ∧
      R (.ok (.ret (.ref (s.heap.push o).objs.size))) { s with heap := (s.heap.push o).push { cls := .type "enumerate", data := .fields #[.none, .bool false, .ref s.heap.objs.size, rawInt 0, .none, .none] } }) :=
  .of_wp fun prog w A R s h => by
    obtain ⟨hp, g, d, tk, os⟩ := s
    obtain ⟨h1, h⟩ := h
    have sub := sub_enumerate
    have begun : ∀ {A1 : Around} {E Q : Value → Shared → Prop}, Q (.ref hp.objs.size) ⟨hp.push o, g, d, tk, os⟩ → wpAny (model prog w) A1 (pyIter v) Q E ⟨hp, g, d, tk, os⟩ := fun q => B.iter prog w _ _ ⟨hp, g, d, tk, os⟩ _ h1 q
    wp_walk using begun
    refine wpAny_stack_any fun st => wpAny_pure ?_
    split
    · rename_i c _ _ _ _ _
      cases (c == Value.type "enumerate") <;> (wp_walk using begun; exact ⟨_, rfl, h⟩)
    · wp_walk using begun
      exact ⟨_, rfl, h⟩
theorem enum_begins1 {prog : Program} {w : World} {A : Around} {E : Value → Shared → Prop} {s : Shared} {v : Value} {o : Obj} {Hh : Heap → Prop} {Q : Value → Shared → Prop} (B : Begins v o Hh) (h1 : Hh s.heap)
    (h : ∀ h', IsEnum h' (s.heap.objs.size + 1) s.heap.objs.size 0 .none → h'.get? s.heap.objs.size = some o → (∀ b o, s.heap.get? b = some o → h'.get? b = some o) → Q (.ref (s.heap.objs.size + 1)) { s with heap := h' }) :
    wpAny (model prog w) A (call (.type "enumerate") [v]) Q E s := by
  refine callType_new F.called_enumerate (by decide) (F.typeCall_enumerate_1 _) (F.newCall_enumerate_1 _) (fun obj => F.args_object_init_2 obj _) F.entry_enumerate_new (meets_enum1 B) ⟨h1, ?_⟩
  have z1 : (s.heap.push o).objs.size = s.heap.objs.size + 1 := Heap.size_push ..
  show _ ∧ _
  rw [z1]
  have en := Heap.get?_push_size (s.heap.push o) (o := { cls := .type "enumerate", data := .fields #[.none, .bool false, .ref s.heap.objs.size, rawInt 0, .none, .none] }) rfl
  rw [z1] at en
  exact ⟨⟨_, en, rfl⟩, h _ en (Heap.get?_push_of_some _ (Heap.get?_push_size _ B.free)) fun b o x => Heap.get?_push_of_some _ (Heap.get?_push_of_some _ x)⟩
def iEnumG (K : PySem.W.Frag) (ta : TA) : TI := fun σ H R => ta σ H fun vs H1 => ∃ (a : Src) (xs : List V), vs = [a.v] ∧ a.holds K H1 xs ∧ R (IteG K a) H1
theorem pi_enumG {e : Expr} {ta : TA} {p pos tpos : Pos} {elts : List Expr} {kk : Nat} (hg : Gl X "enumerate") (hm : X.mg "enumerate" = none) (ha : PA X [e] ta) (hs : starEach [e] X.env = [(false, eval e X.env)] := by rfl) :
    PI X (.Tuple elts kk tpos) (.Call (.Name "enumerate" p) [e] [] pos) (iEnumG X.K ta) := by
  refine ⟨fun pins s σ H R I h => Call_ (ld_blt I hg hm boot_enumerate (PyProof.Rows.callWith_type1 (thn (ha.run pos pins s σ H _ I h) fun us s1 ⟨vs, H1, I1, r1, q1⟩ => ?_) hs rfl))⟩
  obtain ⟨a, xs, ex, h1, q⟩ := q1
  subst ex
  cases r1 with
  | cons ra rr =>
    cases rr
    obtain ⟨o1, B1, b1, k1, i1⟩ := Src.begins I1 h1 ra
    refine enum_begins1 b1 k1 fun h' he g1 hk => wpAny_pyIter_enum he ?_
    have I2 : Inv X pins σ H1 { s1 with heap := h' } := I1.kept (t' := s1.toks) hk
    have fr : ∀ c ∈ [s1.heap.objs.size + 1, s1.heap.objs.size], s1.heap.objs.size ≤ c := fun c hc => by
      simp only [List.mem_cons, List.not_mem_nil, or_false] at hc
      rcases hc with z | z <;> rw [z]
      · exact Nat.le_add_right _ _
      · exact Nat.le_refl _
    exact ⟨s1.heap.objs.size + 1, [s1.heap.objs.size + 1, s1.heap.objs.size], _, _, H1, rfl, I2, turn_enumG (a := a) (Nat.succ_ne_self _) (fun c hc z => absurd (Src.low I1 h1 z) (Nat.not_lt.mpr (fr c hc))), ⟨⟨.none, he⟩, i1 _ _ g1⟩, fun c hc => I1.fpOk (fr c hc) (I1.hok.fresh (fr c hc)), q⟩
end
end AL
namespace AL
open PySem PySem.Spec PyProof.Rows L2
variable {B : Bs}
section
variable {X : Cx} {pos : Pos} {K : PySem.W.Frag}
def srcD (C : AH) : D → Option (List D)
  | .str z => some (signs z)
  | .tup ds => some ds
  | d => asLr C d
theorem src_ok {F : Hp} {C : AH} {R H : Hp} {v : V} {d : D} {ds : List D} (hS : Sat B K F C R H) (r : Rep K F v d) (h : srcD C d = some ds) :
    ∃ a : Src, v = a.v ∧ ∀ F' C' R' H', Ex F F' → Sat B K F' C' R' H' → srcD C' d = some ds → ∃ xs, a.holds K H' xs ∧ RepL K F' xs ds := by
  cases d with
  | str z =>
    cases r
    exact ⟨.tx z, rfl, fun F' C' R' H' _ _ h' => ⟨_, rfl, by cases h'; exact signs_rep z⟩⟩
  | tup us =>
    obtain ⟨p, xs, e1, h1, h2⟩ := asT_ok hS r rfl
    refine ⟨.tp p, e1, fun F' C' R' H' e S' h' => ?_⟩
    cases h'
    obtain ⟨p', xs', e2, h3, h4⟩ := asT_ok S' (r.mono e) rfl
    rw [e1] at e2; cases e2
    exact ⟨xs', SqT.of h3, h4⟩
  | _ =>
    obtain ⟨p, xs, e1, h1, h2⟩ := asLr_ok hS r (show asLr C _ = some ds from h)
    refine ⟨.ls p, e1, fun F' C' R' H' e S' h' => ?_⟩
    obtain ⟨p', xs', e2, h3, h4⟩ := asLr_ok S' (r.mono e) (show asLr C' _ = some ds from h')
    rw [e1] at e2; cases e2
    exact ⟨xs', h3, h4⟩
def aIEG (a : AA') : AI' := fun s C P => a s C fun us C1 => match us with | [x] => (match srcD C1 x with | some ds => P (enumD ds) (fun C' => srcD C' x = some ds) C1 | none => False) | _ => False
theorem ai_enumG {e : Expr} {elts : List Expr} {kk n : Nat} {tpos p : Pos} {ta : TA} {a : AA'} (hm : X.mg "enumerate" = none) (h : AA B X [e] n ta a) (hg : Gl X "enumerate" := by rfl) (hs : starEach [e] X.env = [(false, eval e X.env)] := by rfl) (hK : X.K = K := by rfl) : AI B X (.Tuple elts kk tpos) (.Call (.Name "enumerate" p) [e] [] pos) (iEnumG K ta) (aIEG a) := by
  subst hK
  exact ⟨pi_enumG hg hm h.pa hs, by
  intro σ s F C R H Q P hs hS h0 k
  refine h.sim σ s F C R H _ _ hs hS h0 fun us vs F1 C1 H1 e1 S1 r0 hl h1 => ?_
  split at h1
  · rename_i x
    cases r0 with
    | cons r1 r2 =>
      cases r2
      split at h1
      · rename_i ds q
        obtain ⟨a, e2, l1⟩ := src_ok S1 r1 q
        obtain ⟨xs, g1, g2⟩ := l1 F1 C1 R H1 (Ex.refl F1) S1 q
        refine ⟨a, xs, by rw [e2], g1, k _ _ _ F1 C1 H1 e1 S1 ⟨fun F' C' R' H' e S hc => ?_, fun F' C' R' H' i e S hc hi => ?_, fun F' C' R' H' i x H'' e S hc hi y => ?_⟩ h1⟩
        · obtain ⟨xs', h4, h5⟩ := l1 F' C' R' H' e S hc
          exact ⟨xs', h4, by rw [h5.length, enumD_len]⟩
        · obtain ⟨xs', h4, h5⟩ := l1 F' C' R' H' e S hc
          rw [enumD_len] at hi
          exact ⟨xs', xs'[i]'(by rw [h5.length]; exact hi), h4, by simp⟩
        · obtain ⟨xs', h4, h5⟩ := l1 F' C' R' H' e S hc
          obtain ⟨T, v, y1, y2, y3, y4⟩ := y
          subst y1; subst y3
          obtain ⟨d, h6, h7⟩ := h5.get (y4 xs' h4)
          have eN := Ex.new (o := .tup [.int (i : Nat), v]) (S.freeF y2)
          exact ⟨_, _, enumD_get h6, eN, S.newF y2 _, .tup ⟨.inl upd_same, fun z => by cases z⟩ (.cons (.int _) (.cons (h7.mono eN) .nil))⟩
      · exact h1.elim
  · exact h1.elim⟩
def aInT (neg : Bool) : D → D → AH → (D → AH → Prop) → Prop := fun x y C P => match x, y with
  | .str i, .str j => P (.bl (if neg then !(!(Builtin.Str.occurrences j i 0 j.length 1).isEmpty) else !(Builtin.Str.occurrences j i 0 j.length 1).isEmpty)) C
  | _, _ => False
abbrev aInS := aInT false
abbrev aNinS := aInT true
theorem ao_inS : AOp B X (compareOp .In) (fun x y H Q => ∃ i j, x = .str i ∧ y = .str j ∧ Q (.bl (!(Builtin.Str.occurrences j i 0 j.length 1).isEmpty)) H) aInS := ⟨op_in_str, by
  intro v w d e F C R H Q P hS r1 r2 h k
  unfold aInS aInT at h
  split at h
  · cases r1; cases r2
    exact ⟨_, _, rfl, rfl, k _ _ F C H (Ex.refl F) hS (.bl _) h⟩
  · exact h.elim⟩
theorem ao_ninS : AOp B X (compareOp .NotIn) (fun x y H Q => ∃ i j, x = .str i ∧ y = .str j ∧ Q (.bl (!(!(Builtin.Str.occurrences j i 0 j.length 1).isEmpty))) H) aNinS := ⟨op_notin_str, by
  intro v w d e F C R H Q P hS r1 r2 h k
  unfold aNinS aInT at h
  split at h
  · cases r1; cases r2
    exact ⟨_, _, rfl, rfl, k _ _ F C H (Ex.refl F) hS (.bl _) h⟩
  · exact h.elim⟩
end
section
variable {s : ASt} {C : AH} {P : D → AH → Prop} {aa : AA'} {PI : List D → (AH → Prop) → AH → Prop}
def kIEG (PI : List D → (AH → Prop) → AH → Prop) : List D → AH → Prop := fun us C1 => match us with | [x] => (match srcD C1 x with | some ds => PI (enumD ds) (fun C' => srcD C' x = some ds) C1 | none => False) | _ => False
theorem g_ieG (h : aa s C (kIEG PI)) : aIEG aa s C PI := h
theorem g_kIEG {x : D} {ds : List D} (h1 : ∀ C' : AH, srcD C' x = some ds) (h : PI (enumD ds) (fun _ => True) C) : kIEG PI [x] C := by
  unfold kIEG
  simp only [h1]
  exact h
theorem g_inS {i j : Str} (h : P (.bl (!(Builtin.Str.occurrences j i 0 j.length 1).isEmpty)) C) : aInS (.str i) (.str j) C P := h
theorem g_ninS {i j : Str} (h : P (.bl (!(!(Builtin.Str.occurrences j i 0 j.length 1).isEmpty))) C) : aNinS (.str i) (.str j) C P := h
end
end AL
namespace AL
open PySem PySem.Spec PyProof.Rows L2
variable {B : Bs}
section
variable {X : Cx} {pos : Pos} {K : PySem.W.Frag}
def aStartswith : D → ASp := fun x ds C P => match x, ds with
  | .str a, [.str b] => P (.bl (Txt.startswith a b)) C
  | _, _ => False
theorem am_startswith : AMt B X "str.startswith" (fun x xs H Q => ∃ a b, x = .str a ∧ xs = [.str b] ∧ Q (.bl (Txt.startswith a b)) H) aStartswith := ⟨fun pins s σ H x xs v us Q I r1 r2 h => mt_startswith pins s σ H x xs v us Q I r1 r2 h, by
  intro v d vs ds F C R H Q P hS r1 r2 h k
  unfold aStartswith at h
  split at h
  · cases r1
    cases r2 with
    | cons r2 r3 =>
      cases r3
      cases r2
      exact ⟨_, _, rfl, rfl, k _ _ F C H (Ex.refl F) hS (.bl _) h⟩
  · exact h.elim⟩
end
section
variable {C : AH} {P : D → AH → Prop}
theorem g_starts {a b : Str} (h : P (.bl (decide (a.cps.toList.take b.length = b.cps.toList))) C) : aStartswith (.str a) [.str b] C P := by
  show P (.bl (Txt.startswith a b)) C
  have e : Txt.startswith a b = decide (a.cps.toList.take b.length = b.cps.toList) := by
    unfold Txt.startswith
    rw [PySem.StrLaws.subAt_eq]
    rw [Bool.eq_iff_iff, Bool.and_eq_true, decide_eq_true_eq, decide_eq_true_eq, beq_iff_eq, List.drop_zero]
    refine ⟨fun z => z.2, fun z => ⟨?_, z⟩⟩
    have := congrArg List.length z
    rw [List.length_take] at this
    have h1 : b.length = b.cps.toList.length := by show b.cps.size = _; simp
    have h2 : a.length = a.cps.toList.length := by show a.cps.size = _; simp
    omega
  rw [e]; exact h
end
end AL
namespace AL
open PySem PySem.Spec PyProof.Rows L2
end AL
namespace AL
open PySem PySem.Spec PyProof.Rows L2
end AL
namespace AL
open PySem PySem.Spec PyProof.Rows L2
variable {B : Bs}
def ddS (σ : List Str) (v : Str) : List Str := if σ.any (· == v) then σ else σ ++ [v]
def dd (xs : List Str) : List Str := xs.foldl ddS []
/-- the signs of a text, as texts -/
def sgS (z : Str) : List Str := z.cps.toList.map fun c => ⟨#[c]⟩
section
variable {prog : Program} {w : World} {A : Around} {R : Result → Shared → Prop} {I : Addr} {fp wr : List Addr} {G : Array GenState → Array GenState → Prop} {n : Nat} {P : Nat → Value → Prop} {St : Nat → Shared → Prop}
abbrev SetS (prog : Program) (w : World) (h : Heap) (S : Addr) (xs : List Str) : Prop := h.SetOf (PySem.strKind prog w) S (fun k => (dd xs).any (· == k)) (dd xs).length
theorem SetS.keep {h h' : Heap} {S : Addr} {xs : List Str} (q : SetS prog w h S xs) (hk : ∀ o, h.get? S = some o → h'.get? S = some o) : SetS prog w h' S xs := by
  obtain ⟨o, es, ep, t, ho, r⟩ := q
  exact ⟨o, es, ep, t, hk _ ho, r⟩
end
end AL
namespace AL
open PySem PySem.Spec PyProof.Rows L2
variable {B : Bs}
section
variable {X : Cx} {K : PySem.W.Frag}
def aLenSet (a : AE') : AE' := fun s C P => a s C fun x C1 => match x with | .str z => z.length ≤ 4000 ∧ P (.int (dd (sgS z)).length) C1 | _ => False
end
section
variable {C : AH} {P : D → AH → Prop} {s : ASt} {e : AE'}
def kLenSet (P : D → AH → Prop) : D → AH → Prop := fun x C1 => match x with | .str z => z.length ≤ 4000 ∧ P (.int (dd (sgS z)).length) C1 | _ => False
theorem g_lenSet (h : e s C (kLenSet P)) : aLenSet e s C P := h
end
end AL
namespace AL
open PySem PySem.Spec PyProof.Rows L2
variable {B : Bs}
def tabAt : List (Str × Int) → Str → Option Int
  | [], _ => none
  | (x, i) :: q, z => if x = z then some i else tabAt q z
section
variable {X : Cx} {K : PySem.W.Frag} {x : Str} {d : Addr} {tab : List (Str × Int)} {e : Expr} {te : TE} {a : AE'} {p pos : Pos}
def aInTab (tab : List (Str × Int)) (neg : Bool) (a : AE') : AE' := fun s C P => a s C fun x C1 => match x with | .str z => P (.bl (if neg then !(tabAt tab z).isSome else (tabAt tab z).isSome)) C1 | _ => False
def aIxTab (tab : List (Str × Int)) (a : AE') : AE' := fun s C P => a s C fun x C1 => match x with | .str z => (match tabAt tab z with | some i => P (.int i) C1 | none => False) | _ => False
end
section
variable {C : AH} {P : D → AH → Prop} {s : ASt} {e : AE'} {tab : List (Str × Int)}
def kInTab (tab : List (Str × Int)) (neg : Bool) (P : D → AH → Prop) : D → AH → Prop := fun x C1 => match x with | .str z => P (.bl (if neg then !(tabAt tab z).isSome else (tabAt tab z).isSome)) C1 | _ => False
def kIxTab (tab : List (Str × Int)) (P : D → AH → Prop) : D → AH → Prop := fun x C1 => match x with | .str z => (match tabAt tab z with | some i => P (.int i) C1 | none => False) | _ => False
theorem g_inTab {neg : Bool} (h : e s C (kInTab tab neg P)) : aInTab tab neg e s C P := h
theorem g_kInTab {z : Str} (h : P (.bl (tabAt tab z).isSome) C) : kInTab tab false P (.str z) C := h
theorem g_kNotInTab {z : Str} (h : P (.bl (!(tabAt tab z).isSome)) C) : kInTab tab true P (.str z) C := h
theorem g_ixTab (h : e s C (kIxTab tab P)) : aIxTab tab e s C P := h
end
end AL
namespace AL
open PySem PySem.Spec PyProof.Rows L2
variable {B : Bs}
def rEqE (K : PySem.W.Frag) (neg : Bool) : R2 := fun x y H Q => ∃ a b xs, x = .ref a ∧ y = .ref b ∧ SqL K H a xs ∧ SqL K H b [] ∧ Q (.bl (if neg then !xs.isEmpty else xs.isEmpty)) H
section
variable {X : Cx} {K : PySem.W.Frag}
theorem op_eqE (hu : X.A.units + 64 < cLine) : OpR X (compareOp .Eq) (rEqE X.K false) := by
  intro pins s σ H x y v u Q I rx ry h
  obtain ⟨a, b, xs, rfl, rfl, h1, h2, q⟩ := h
  cases xs with
  | nil => exact op_eqD hu pins s σ H _ _ v u Q I rx ry ⟨.list [], .list [], .lst h1 .nil, .lst h2 .nil, rfl, rfl, q⟩
  | cons e es =>
    cases rx; cases ry
    obtain ⟨its, r, pl, _⟩ := I.list h1
    obtain ⟨its2, r2, pl2, _⟩ := I.list h2
    have l1 := r.length
    have l2 := r2.length
    refine SeqAt.RcAt.lists_lengths pl.isList pl2.isList ?_ (by omega) X.prog X.w _ _ ⟨.bl false, H, I, rfl, q⟩
    rw [List.size_toArray, List.size_toArray, ← l1, ← l2]
    simp
theorem op_neE (hu : X.A.units + 64 < cLine) : OpR X (compareOp .NotEq) (rEqE X.K true) := by
  intro pins s σ H x y v u Q I rx ry h
  obtain ⟨a, b, xs, rfl, rfl, h1, h2, q⟩ := h
  cases xs with
  | nil => exact op_neD hu pins s σ H _ _ v u Q I rx ry ⟨.list [], .list [], .lst h1 .nil, .lst h2 .nil, rfl, rfl, q⟩
  | cons e es =>
    cases rx; cases ry
    obtain ⟨its, r, pl, _⟩ := I.list h1
    obtain ⟨its2, r2, pl2, _⟩ := I.list h2
    have l1 := r.length
    have l2 := r2.length
    refine SeqAt.RcNeAt.lists_lengths pl.isList pl2.isList ?_ (by omega) X.prog X.w _ _ ⟨.bl true, H, I, rfl, q⟩
    rw [List.size_toArray, List.size_toArray, ← l1, ← l2]
    simp
/-- the right side is [] -/
def aEqNil (neg : Bool) : D → D → AH → (D → AH → Prop) → Prop := fun x y C P => match asLr C x, y with
  | some us, .lst [] => P (.bl (if neg then !us.isEmpty else us.isEmpty)) C
  | _, _ => False
theorem sim_eqNil (neg : Bool) : SimR2 B K (rEqE K neg) (aEqNil neg) := by
  intro v w d e F C R H Q P hS r1 r2 h k
  unfold aEqNil at h
  split at h
  · rename_i us q
    obtain ⟨a, xs, e1, h1, h2⟩ := asLr_ok hS r1 q
    obtain ⟨b, ys, e2, h3, h4⟩ := asLr_ok (C := C) (d := .lst []) (ds := []) hS r2 rfl
    cases h4
    have he : xs.isEmpty = us.isEmpty := by cases h2 <;> rfl
    exact ⟨a, b, xs, e1, e2, h1, h3, k _ _ F C H (Ex.refl F) hS (by rw [he]; exact .bl _) h⟩
  · exact h.elim
theorem ao_eqNil (hu : X.A.units + 64 < cLine) (hK : X.K = K := by rfl) : AOp B X (compareOp .Eq) (rEqE K false) (aEqNil false) := by
  subst hK
  exact ⟨op_eqE hu, sim_eqNil false⟩
theorem ao_neNil (hu : X.A.units + 64 < cLine) (hK : X.K = K := by rfl) : AOp B X (compareOp .NotEq) (rEqE K true) (aEqNil true) := by
  subst hK
  exact ⟨op_neE hu, sim_eqNil true⟩
end
section
variable {C : AH} {P : D → AH → Prop}
theorem g_eqNil {us : List D} (h : P (.bl us.isEmpty) C) : aEqNil false (.lst us) (.lst []) C P := h
theorem g_neNil {us : List D} (h : P (.bl (!us.isEmpty)) C) : aEqNil true (.lst us) (.lst []) C P := h
end
section
variable {C : AH} {P : D → AH → Prop} {s : ASt} {a b c : AE'} {r r' : D → D → AH → (D → AH → Prop) → Prop}
def kChain (r' : D → D → AH → (D → AH → Prop) → Prop) (c : AE') (y : D) (s : ASt) (P : D → AH → Prop) : D → AH → Prop := fun z C3 => match z with
  | .bl true => c s C3 fun w C4 => r' y w C4 P
  | .bl false => P (.bl false) C3
  | _ => False
theorem g_chain (h : a s C fun x C1 => b s C1 fun y C2 => r x y C2 (kChain r' c y s P)) : aChain r r' a b c s C P := h
theorem g_kChain {y : D} {k : Bool} (h1 : k = true → c s C fun w C4 => r' y w C4 P) (h2 : k = false → P (.bl false) C) : kChain r' c y s P (.bl k) C := by
  cases k
  · exact h2 rfl
  · exact h1 rfl
end
end AL
namespace AL
open PySem PySem.Spec PyProof.Rows L2
end AL
namespace AL
open PySem PySem.Spec PyProof.Rows L2
end AL
namespace AL
open PySem PySem.Spec PyProof.Rows L2
variable {B : Bs}
section
variable {X : Cx} {K : PySem.W.Frag}
theorem RepL.times {F : Hp} {xs : List V} {ds : List D} (r : RepL K F xs ds) : ∀ n, RepL K F (List.replicate n xs).flatten (List.replicate n ds).flatten
  | 0 => .nil
  | n + 1 => by
    rw [List.replicate_succ, List.replicate_succ, List.flatten_cons, List.flatten_cons]
    exact r.append (RepL.times r n)
def aMaxL : ASp := fun ds C P => match ds with
  | [d] => ∃ (es : List D) (ks : List Int), asLr C d = some es ∧ es = ks.map D.int ∧ 0 < ks.length ∧ ∀ m : Int, m ∈ ks → (∀ y, y ∈ ks → y ≤ m) → P (.int m) C
  | _ => False
theorem ac_maxL (hc : X.calm = true := by rfl) (hK : X.K = K := by rfl) : ACa B X (.builtin "max") (rMax K) aMaxL := by
  subst hK
  exact ⟨cr_max hc, by
  intro vs ds F C R H Q P hS r h k
  unfold aMaxL at h
  split at h
  · cases r with
    | cons r1 r2 =>
      cases r2
      obtain ⟨es, ks, h1, h2, h3, h4⟩ := h
      subst h2
      obtain ⟨a, kvs, rfl, g1, g2⟩ := asLr_ok hS r1 h1
      rw [g2.ofInts] at g1
      exact ⟨a, ks, rfl, g1, h3, fun m e1 e2 => k _ _ F C H (Ex.refl F) hS (.int _) (h4 m e1 e2)⟩
  · exact h.elim⟩
end
end AL
namespace AL
open PySem PySem.Spec PyProof.Rows L2
end AL
namespace AL
open PySem L2
def nk (n : Nat) : Key := .inl (n : Int)
theorem nk_inj {a b : Nat} (h : nk a = nk b) : a = b := by have := Sum.inl.inj h; omega
def Ky (es : List (Key × D)) (L : List Nat) : Prop := es.map (·.1) = L.map nk
def addN (L : List Nat) (n : Nat) : List Nat := if n ∈ L then L else L ++ [n]
theorem Ky.nil : Ky [] [] := rfl
theorem Ky.len {es : List (Key × D)} {L : List Nat} (h : Ky es L) : es.length = L.length := by
  have := congrArg List.length h
  simpa using this
theorem Ky.any {es : List (Key × D)} {L : List Nat} (h : Ky es L) (n : Nat) : (es.any fun kv => decide (kv.1 = nk n)) = decide (n ∈ L) := by
  have e : (es.any fun kv => decide (kv.1 = nk n)) = (es.map (·.1)).any fun k => decide (k = nk n) := by rw [List.any_map]; rfl
  rw [e, show es.map (·.1) = L.map nk from h, List.any_map, Bool.eq_iff_iff, List.any_eq_true, decide_eq_true_iff]
  constructor
  · rintro ⟨m, hm, e⟩
    have := nk_inj (of_decide_eq_true e)
    rw [← this]; exact hm
  · intro hm
    exact ⟨n, hm, decide_eq_true rfl⟩
theorem Ky.val {es : List (Key × D)} {L : List Nat} (h : Ky es L) (n : Nat) : (valD es (nk n)).isSome = decide (n ∈ L) := by
  rw [← h.any n]
  unfold valD
  rw [Option.isSome_map, Bool.eq_iff_iff, List.find?_isSome, List.any_eq_true]
theorem Ky.put {es : List (Key × D)} {L : List Nat} {d : D} (h : Ky es L) (n : Nat) : Ky (putD es (nk n) d) (addN L n) := by
  unfold putD addN
  rw [h.any]
  by_cases hn : n ∈ L
  · rw [decide_eq_true hn, if_pos rfl, if_pos hn]
    show (es.map _).map _ = _
    rw [List.map_map]
    have e : ((fun kv : Key × D => kv.1) ∘ fun kv : Key × D => if kv.1 = nk n then (kv.1, d) else kv) = fun kv => kv.1 := by
      funext kv
      simp only [Function.comp]
      split <;> rfl
    rw [e]
    exact h
  · rw [decide_eq_false hn, if_neg (by decide), if_neg hn]
    show (es ++ [_]).map _ = _
    rw [List.map_append, List.map_append, show es.map (·.1) = L.map nk from h]
    rfl
theorem nodup_addN {L : List Nat} {n : Nat} (h : L.Nodup) : (addN L n).Nodup := by
  unfold addN
  split
  · exact h
  · rename_i hn
    refine List.nodup_append.mpr ⟨h, by simp, ?_⟩
    intro a ha b hb e
    have : b = n := by simpa using hb
    exact hn (by rw [← this, ← e]; exact ha)
open Classical in
/-- those below n of which p is so, rising -/
noncomputable def rl (n : Nat) (p : Nat → Prop) : List Nat := (List.range n).filter fun i => decide (p i)
end AL
namespace AL
open PySem PySem.Spec PyProof.Rows L2
open AutoSeq1 (wpAny_loadPart')
end AL
namespace AL
open PySem PySem.Spec PyProof.Rows L2
variable {B : Bs}
/-- flat things, truths and numbers in any mix -/
def eqF : D → D → Option Bool
  | .bl i, .int j => some ((if i then 1 else 0) == j)
  | .int i, .bl j => some (i == (if j then 1 else 0))
  | d, e => eqS d e
def isF : D → Bool
  | .non | .bl _ | .int _ | .str _ => true
  | _ => false
inductive EqD : Nat → D → D → Bool → Prop
  | flat {n : Nat} {d e : D} {b : Bool} : eqF d e = some b → EqD n d e b
  | lsts {n : Nat} {us ws : List D} {e : Nat → Bool} : us.length = ws.length → (∀ j (h1 : j < us.length) (h2 : j < ws.length), EqD n us[j] ws[j] (e j)) → EqD (n + 1) (.lst us) (.lst ws) ((List.range us.length).all e)
  | lstsN {n : Nat} {us ws : List D} : us.length ≠ ws.length → EqD (n + 1) (.lst us) (.lst ws) false
  | tups {n : Nat} {us ws : List D} {e : Nat → Bool} : (∀ j (h1 : j < us.length) (h2 : j < ws.length), EqD n us[j] ws[j] (e j)) → EqD (n + 1) (.tup us) (.tup ws) ((List.range (min us.length ws.length)).all e && us.length == ws.length)
  | lstF {n : Nat} {us : List D} {d : D} : isF d = true → EqD (n + 1) (.lst us) d false
  | tupF {n : Nat} {us : List D} {d : D} : isF d = true → EqD (n + 1) (.tup us) d false
  | fLst {n : Nat} {us : List D} {d : D} : isF d = true → EqD (n + 1) d (.lst us) false
  | fTup {n : Nat} {us : List D} {d : D} : isF d = true → EqD (n + 1) d (.tup us) false
  | lstTup {n : Nat} {us ws : List D} : EqD (n + 1) (.lst us) (.tup ws) false
  | tupLst {n : Nat} {us ws : List D} : EqD (n + 1) (.tup us) (.lst ws) false
  | dk0 {n : Nat} : EqD (n + 1) (.dk []) (.dk []) true
  | dkBl {n : Nat} {b : Bool} : EqD (n + 1) (.dk []) (.bl b) false
section
variable {A : Around} {s : Shared}
/-- an empty dict, by any program's look -/
def Dic0 (h : Heap) (a : Addr) : Prop := (a == sysModules) = false ∧ ∀ (prog : Program) (w : World), h.DictOf (mixKind prog w) a []
theorem dic0_of {P : Program} {w : World} {H : Hp} {h : Heap} {a : Addr} (ok : ObjOk P w H h a (.dK [])) : Dic0 h a := by
  obtain ⟨_, ys, va, ra, o, es, ep, ho, hx, hd, hk, hp, hn⟩ := ok
  unfold KV at ra
  cases ra
  have e0 : es.toList.length = 0 := hp.length
  have e1 : es = #[] := by
    apply Array.toList_inj.mp
    exact List.length_eq_zero_iff.mp e0
  subst e1
  refine ⟨ys, fun prog w' => ⟨o, #[], ep, ho, hx, hd, fun e he => absurd he (by simp), .nil, List.nodup_nil⟩⟩
theorem rc_dic {a b : Addr} (ha : Dic0 s.heap a) (hb : Dic0 s.heap b) (hu : A.units < cLine) : SeqAt.RcAt A s (.ref a) (.ref b) true := fun prog w E Q q =>
  PySem.W.rcP_dicts (knd := mixKind prog w) (r := true) ha.1 hb.1 (ha.2 prog w) (hb.2 prog w) hu (fun _ => .nil) E Q q
theorem eq_dic {a b : Addr} (ha : Dic0 s.heap a) (hb : Dic0 s.heap b) (hu : A.units < cLine) : SeqAt.EqAt A s (.ref a) (.ref b) true := by
  by_cases e : a = b
  · subst e; exact SeqAt.EqAt.same _
  · exact SeqAt.EqAt.of_refs e (rc_dic ha hb hu)
open AutoSeq1 (wpAny_loadPart') in
theorem int_declines_dic (c : Bool) (a : Addr) (cl : Value) (dd : Option Addr) (es : Array DictEntry) (ep : Nat) (sl : Array (Option Value)) : Meets (Builtin.«int.__eq__» ⟨[.bool c, .ref a], []⟩) (fun _ R s => s.heap.get? a = some { cls := cl, dict := dd, data := .dict es ep, slots := sl } ∧ R (.ok (.ret .notImplemented)) s) :=
  .of_wp fun prog w A R s h => by
    obtain ⟨hp, g, d, tk, os⟩ := s
    obtain ⟨hl, h⟩ := h
    wp_walk using wpAny_loadPart' hl, wpAny_load hl
    exact ⟨_, rfl, h⟩
open AutoSeq1 (wpAny_loadPart') in
theorem dict_declines_bool (c : Bool) (a : Addr) : Meets (Builtin.«dict.__eq__» ⟨[.ref a, .bool c], []⟩) (fun _ R s => s.TypeIs (.ref a) "dict" ∧ R (.ok (.ret .notImplemented)) s) :=
  .of_wp fun prog w A R s h => by
    obtain ⟨ht, h⟩ := h
    have f1 := F.sub_bool_dict
    show wpAny _ _ (Builtin.Dict.dictSlotArgs "__eq__" ⟨[.ref a, .bool c], []⟩ >>= _) _ _ s
    refine wpAny_bind ?_
    unfold Builtin.Dict.dictSlotArgs
    refine wpAny_bind (wpAny_notOrdered_dict ht ?_)
    show wpAny _ _ (pure (Value.ref a, Value.bool c)) _ _ s
    refine wpAny_pure ?_
    refine wpAny_bind (wpAny_isInstance (v := .bool c) (T := "bool") rfl F.sub_bool_dict ?_)
    simp only [Bool.not_false, if_true]
    refine wpAny_bind (wpAny_rule ?_)
    exact wpAny_bind (wpAny_pure (wpAny_pure ⟨_, rfl, h⟩))
theorem dic_bool {a : Addr} (b : Bool) (ha : Dic0 s.heap a) (hu : A.units < cLine) : SeqAt.EqAt A s (.ref a) (.bool b) false := fun prog w E Q h => by
  obtain ⟨o, es, ep, ho, hx, hd, _⟩ := ha.2 prog w
  have ht : s.TypeIs (.ref a) "dict" := (ha.2 prog w).typeIs
  obtain ⟨cl, dd, data, sl⟩ := o
  simp only at hd
  subst hd
  unfold eqBool
  refine wpAny_holding ?_
  refine wpAny_ite_split (fun hab => absurd (eq_of_beq hab) nofun) (fun _ => ?_)
  refine wpAny_bind ?_
  exact SeqAt.rc_eq_decline_or (k := false) ht rfl (by decide) F.sub_bool_dict F.slot_dict_eq F.slot_bool_eq_refl
    (fun _ hq => call_meets F.slot_dict_eq ht F.entry_dict_eq (F.args_dict_eq_2 _ _) (dict_declines_bool b a) ⟨ht, hq⟩)
    (fun _ hq => call_meets F.slot_bool_eq_refl rfl F.entry_int_eq (F.args_int_eq_2 _ _) (int_declines_dic b a cl dd es ep sl) ⟨ho, hq⟩)
    (fun _ hq => wpAny_of_eq (rfl : isSame (.ref a) (.bool b) = pure false) hq) (.inr hu) (wpAny_truthy_bool h)
end
section
variable {X : Cx} {K : PySem.W.Frag}
theorem dec_beq {α : Type} [DecidableEq α] [BEq α] [LawfulBEq α] (a b : α) : decide (a = b) = (a == b) := by
  rw [Bool.eq_iff_iff]; simp
theorem rv_non {u : Value} (h : L2.RelV .non u) : u = .none := h
theorem rv_bl {b : Bool} {u : Value} (h : L2.RelV (.bl b) u) : u = .bool b := h
theorem rv_int {i : Int} {u : Value} (h : L2.RelV (.int i) u) : ∃ t, u = .int i t := h
theorem rv_str {i : Str} {u : Value} (h : L2.RelV (.str i) u) : ∃ t, u = .str i t := h
theorem eqF_at {A : Around} {s : Shared} {F : Hp} {v w : V} {x y : Value} {d e : D} {b : Bool} (r1 : Rep K F v d) (r2 : Rep K F w e) (rx : RelV v x) (ry : RelV w y) (h : eqF d e = some b) : SeqAt.EqAt A s x y b := by
  unfold eqF at h
  split at h
  · cases r1; cases r2; cases h; cases rx
    obtain ⟨t, rfl⟩ := ry
    exact SeqAt.EqAt.bool_int _ _ _
  · cases r1; cases r2; cases h; cases ry
    obtain ⟨t, rfl⟩ := rx
    exact SeqAt.EqAt.int_bool _ _ _
  · unfold eqS at h
    split at h
    · cases r1; cases r2; cases h; obtain rfl := rv_non rx; obtain rfl := rv_non ry; exact SeqAt.EqAt.same _
    · cases r1; cases r2; cases h; obtain rfl := rv_non rx; obtain ⟨t2, rfl⟩ := rv_int ry; exact SeqAt.EqAt.none_int _ _
    · cases r1; cases r2; cases h; obtain ⟨t, rfl⟩ := rv_int rx; obtain rfl := rv_non ry; exact SeqAt.EqAt.int_none _ _
    · cases r1; cases r2; cases h; obtain rfl := rv_non rx; obtain rfl := rv_bl ry; exact SeqAt.EqAt.none_bool _
    · cases r1; cases r2; cases h; obtain rfl := rv_bl rx; obtain rfl := rv_non ry; exact SeqAt.EqAt.bool_none _
    · cases r1; cases r2; cases h; obtain rfl := rv_non rx; obtain ⟨t2, rfl⟩ := rv_str ry; exact SeqAt.EqAt.none_str _ _
    · cases r1; cases r2; cases h; obtain ⟨t, rfl⟩ := rv_str rx; obtain rfl := rv_non ry; exact SeqAt.EqAt.str_none _ _
    · cases r1; cases r2; cases h; obtain ⟨t, rfl⟩ := rv_int rx; obtain ⟨t2, rfl⟩ := rv_int ry; rw [dec_beq]; exact SeqAt.EqAt.int_int _ _ _ _
    · cases r1; cases r2; cases h; obtain rfl := rv_bl rx; obtain rfl := rv_bl ry; rw [dec_beq]; exact SeqAt.EqAt.bool_bool _ _
    · cases r1; cases r2; cases h; obtain ⟨t, rfl⟩ := rv_str rx; obtain ⟨t2, rfl⟩ := rv_str ry; rw [dec_beq]; exact SeqAt.EqAt.str_str _ _ _ _
    · cases r1; cases r2; cases h; obtain ⟨t, rfl⟩ := rv_int rx; obtain ⟨t2, rfl⟩ := rv_str ry; exact SeqAt.EqAt.int_str _ _ _ _
    · cases r1; cases r2; cases h; obtain ⟨t, rfl⟩ := rv_str rx; obtain ⟨t2, rfl⟩ := rv_int ry; exact SeqAt.EqAt.str_int _ _ _ _
    · cases r1; cases r2; cases h; obtain rfl := rv_bl rx; obtain ⟨t2, rfl⟩ := rv_str ry; exact SeqAt.EqAt.bool_str _ _ _
    · cases r1; cases r2; cases h; obtain ⟨t, rfl⟩ := rv_str rx; obtain rfl := rv_bl ry; exact SeqAt.EqAt.str_bool _ _ _
    · cases h
theorem vals_at {vs : List V} {us : List Value} (r : L2.Vals vs us) : ∀ {j : Nat} {v : V}, vs[j]? = some v → ∃ u, us[j]? = some u ∧ L2.RelV v u := by
  induction r with
  | nil => intro j v e; simp at e
  | cons h t ih =>
    intro j v e
    cases j with
    | zero => simp at e; subst e; exact ⟨_, rfl, h⟩
    | succ j => simpa using ih (by simpa using e)
theorem items_at {A : Around} {s : Shared} {F : Hp} {us ws : List D} {vs ys : List V} {xs zs : List Value} {e : Nat → Bool} (r1 : RepL K F vs us) (r2 : RepL K F ys ws) (q1 : L2.Vals vs xs) (q2 : L2.Vals ys zs)
    (h : ∀ j (h1 : j < us.length) (h2 : j < ws.length) (v w : V) (x y : Value), Rep K F v us[j] → Rep K F w ws[j] → L2.RelV v x → L2.RelV w y → SeqAt.EqAt A s x y (e j)) :
    ∀ j (h1 : j < xs.toArray.size) (h2 : j < zs.toArray.size), SeqAt.EqAt A s xs.toArray[j] zs.toArray[j] (e j) := by
  intro j h1 h2
  have l1 : j < us.length := by rw [← r1.length, q1.length]; simpa using h1
  have l2 : j < ws.length := by rw [← r2.length, q2.length]; simpa using h2
  obtain ⟨v, e1, g1⟩ := r1.getD (List.getElem?_eq_getElem l1)
  obtain ⟨w, e2, g2⟩ := r2.getD (List.getElem?_eq_getElem l2)
  obtain ⟨x, f1, k1⟩ := vals_at q1 e1
  obtain ⟨y, f2, k2⟩ := vals_at q2 e2
  have := h j l1 l2 v w x y g1 g2 k1 k2
  rw [List.getElem?_eq_some_iff] at f1 f2
  obtain ⟨_, f1⟩ := f1
  obtain ⟨_, f2⟩ := f2
  simpa [f1, f2] using this
theorem flat_at {F : Hp} {v : V} {d : D} {x : Value} (r : Rep K F v d) (rx : L2.RelV v x) (h : isF d = true) : x = .none ∨ (∃ b, x = .bool b) ∨ (∃ i t, x = .int i t) ∨ ∃ z t, x = .str z t := by
  cases r <;> first | (cases h; done) | skip
  · exact .inl rx
  · exact .inr (.inl ⟨_, rx⟩)
  · obtain ⟨t, e⟩ := rv_int rx; exact .inr (.inr (.inl ⟨_, t, e⟩))
  · obtain ⟨t, e⟩ := rv_str rx; exact .inr (.inr (.inr ⟨_, t, e⟩))
variable {pins : List (Addr × Obj)} {σ : L2.St} {H : Hp} {s : Shared}
theorem tup_is (I : Inv X pins σ H s) {F : Hp} (e : Ex F H) {a : Addr} {xs : List V} (h : Rd F a (.tup xs)) : ∃ us, L2.Vals xs us ∧ s.heap.IsTuple a us.toArray := by
  obtain ⟨its, r, g, _⟩ := I.tuple (SqT.of (K := X.K) (rdUp h e))
  exact ⟨its, r, g⟩
theorem lst_is (I : Inv X pins σ H s) {F : Hp} (e : Ex F H) {a : Addr} {xs : List V} (h : F a = some (.lst xs)) : ∃ us, L2.Vals xs us ∧ s.heap.IsList a us.toArray := by
  obtain ⟨its, r, g, _⟩ := I.list (SqL.of (e _ _ h))
  exact ⟨its, r, g.isList⟩
theorem eqD_same {K : PySem.W.Frag} {F : Hp} {n : Nat} {d e : D} {b : Bool} (t : EqD n d e b) : ∀ (v : V), Rep K F v d → Rep K F v e → b = true := by
  induction t with
  | flat h =>
    intro v r1 r2
    unfold eqF at h
    split at h
    · cases r1; cases r2
    · cases r1; cases r2
    · unfold eqS at h
      split at h <;> cases r1 <;> cases r2 <;> cases h <;> first | rfl | exact decide_eq_true rfl
  | lsts hl _ ih =>
    intro v r1 r2
    cases r1 with
    | lst h1 g1 => cases r2 with
      | lst h2 g2 =>
        cases h1.symm.trans h2
        refine List.all_eq_true.mpr fun j hj => ?_
        have hj := List.mem_range.mp hj
        obtain ⟨v, e1, q1⟩ := g1.getD (List.getElem?_eq_getElem hj)
        obtain ⟨w, e2, q2⟩ := g2.getD (List.getElem?_eq_getElem (hl ▸ hj))
        cases e1.symm.trans e2
        exact ih j hj (hl ▸ hj) v q1 q2
  | lstsN hl =>
    intro v r1 r2
    cases r1 with
    | lst h1 g1 => cases r2 with
      | lst h2 g2 =>
        cases h1.symm.trans h2
        exact absurd (g1.length.symm.trans g2.length) hl
  | tups _ ih =>
    intro v r1 r2
    cases r1 with
    | tup h1 g1 => cases r2 with
      | tup h2 g2 =>
        cases rdInj h1.1 h2.1
        have hl := g1.length.symm.trans g2.length
        rw [Bool.and_eq_true]
        refine ⟨List.all_eq_true.mpr fun j hj => ?_, by simp [hl]⟩
        have hj := List.mem_range.mp hj
        have k1 : j < _ := Nat.lt_of_lt_of_le hj (Nat.min_le_left _ _)
        have k2 : j < _ := Nat.lt_of_lt_of_le hj (Nat.min_le_right _ _)
        obtain ⟨v, e1, q1⟩ := g1.getD (List.getElem?_eq_getElem k1)
        obtain ⟨w, e2, q2⟩ := g2.getD (List.getElem?_eq_getElem k2)
        cases e1.symm.trans e2
        exact ih j k1 k2 v q1 q2
  | lstF h => intro v r1 r2; cases r1 <;> cases r2 <;> cases h
  | tupF h => intro v r1 r2; cases r1 <;> cases r2 <;> cases h
  | fLst h => intro v r1 r2; cases r1 <;> cases r2 <;> cases h
  | fTup h => intro v r1 r2; cases r1 <;> cases r2 <;> cases h
  | lstTup =>
    intro v r1 r2
    cases r1 with
    | lst h1 g1 => cases r2 with
      | tup h2 g2 => rcases h2.1 with h2 | ⟨o, h2⟩ <;> cases h1.symm.trans h2
  | tupLst =>
    intro v r1 r2
    cases r1 with
    | tup h1 g1 => cases r2 with
      | lst h2 g2 => rcases h1.1 with h1 | ⟨o, h1⟩ <;> cases h1.symm.trans h2
  | dk0 => intro v r1 r2; rfl
  | dkBl => intro v r1 r2; cases r1 <;> cases r2
/-- the items of two lists or tuples, told apart -/
def Items (A : Around) (s : Shared) (l1 l2 : Nat) (e : Nat → Bool) (xs zs : Array Value) : Prop := xs.size = l1 ∧ zs.size = l2 ∧ ∀ j (h1 : j < xs.size) (h2 : j < zs.size), SeqAt.EqAt A s xs[j] zs[j] (e j)
theorem both_lst (I : Inv X pins σ H s) {F : Hp} (eF : Ex F H) {us ws : List D} {A : Around} {e : Nat → Bool} {a b : Addr} {vs ys : List V} (h1 : F a = some (.lst vs)) (h2 : F b = some (.lst ys)) (g1 : RepL X.K F vs us) (g2 : RepL X.K F ys ws)
    (ih : ∀ j (h1 : j < us.length) (h2 : j < ws.length) (v w : V) (x y : Value), Rep X.K F v us[j] → Rep X.K F w ws[j] → L2.RelV v x → L2.RelV w y → SeqAt.EqAt A s x y (e j)) :
    ∃ xs zs, s.heap.IsList a xs ∧ s.heap.IsList b zs ∧ Items A s us.length ws.length e xs zs := by
  obtain ⟨xs, q1, p1⟩ := lst_is I eF h1
  obtain ⟨ys, q2, p2⟩ := lst_is I eF h2
  exact ⟨_, _, p1, p2, by rw [List.size_toArray, ← q1.length, g1.length], by rw [List.size_toArray, ← q2.length, g2.length], items_at g1 g2 q1 q2 ih⟩
theorem both_tup (I : Inv X pins σ H s) {F : Hp} (eF : Ex F H) {us ws us' ws' : List D} {A : Around} {e : Nat → Bool} {a b : Addr} {vs ys : List V} (h1 : TupS F a vs us') (h2 : TupS F b ys ws') (g1 : RepL X.K F vs us) (g2 : RepL X.K F ys ws)
    (ih : ∀ j (h1 : j < us.length) (h2 : j < ws.length) (v w : V) (x y : Value), Rep X.K F v us[j] → Rep X.K F w ws[j] → L2.RelV v x → L2.RelV w y → SeqAt.EqAt A s x y (e j)) :
    ∃ xs zs, s.heap.IsTuple a xs ∧ s.heap.IsTuple b zs ∧ Items A s us.length ws.length e xs zs := by
  obtain ⟨xs, q1, p1⟩ := tup_is I eF h1.1
  obtain ⟨ys, q2, p2⟩ := tup_is I eF h2.1
  exact ⟨_, _, p1, p2, by rw [List.size_toArray, ← q1.length, g1.length], by rw [List.size_toArray, ← q2.length, g2.length], items_at g1 g2 q1 q2 ih⟩
theorem one_lst (I : Inv X pins σ H s) {F : Hp} (eF : Ex F H) {a : Addr} {vs : List V} (h1 : F a = some (.lst vs)) : ∃ xs, s.heap.IsList a xs := by
  obtain ⟨xs, q1, p1⟩ := lst_is I eF h1
  exact ⟨_, p1⟩
theorem one_tup (I : Inv X pins σ H s) {F : Hp} (eF : Ex F H) {a : Addr} {vs : List V} {us' : List D} (h1 : TupS F a vs us') : ∃ xs, s.heap.IsTuple a xs := by
  obtain ⟨xs, q1, p1⟩ := tup_is I eF h1.1
  exact ⟨_, p1⟩
/-- what a comparision of trees tells, an item's -/
theorem eqD_at (I : Inv X pins σ H s) {F : Hp} (eF : Ex F H) {n : Nat} {d e : D} {b : Bool} (t : EqD n d e b) : ∀ (A : Around), A.units + n < cLine → ∀ (v w : V) (x y : Value), Rep X.K F v d → Rep X.K F w e → L2.RelV v x → L2.RelV w y → SeqAt.EqAt A s x y b := by
  induction t with
  | flat h => intro A hu v w x y r1 r2 rx ry; exact eqF_at r1 r2 rx ry h
  | lsts hl hh ih =>
    intro A hu v w x y r1 r2 rx ry
    by_cases ne : v = w
    · subst ne
      rw [eqD_same (.lsts hl hh) v r1 r2]
      cases r1
      cases rx; cases ry
      exact SeqAt.EqAt.same _
    · cases r1 with
      | lst h1 g1 => cases r2 with
        | lst h2 g2 =>
          cases rx; cases ry
          obtain ⟨xs, zs, p1, p2, l1, l2, q⟩ := both_lst (A := A.in1) I eF h1 h2 g1 g2 fun j h1 h2 v w x y a1 a2 a3 a4 => ih j h1 h2 A.in1 (by show A.units + 1 + _ < cLine; omega) v w x y a1 a2 a3 a4
          refine SeqAt.EqAt.of_refs (fun z => ne (by rw [z])) ?_
          have := SeqAt.RcAt.lists (A := A) p1 p2 (by rw [l1, l2, hl]) (by omega) q
          rw [l1] at this
          exact this
  | lstsN hl =>
    intro A hu v w x y r1 r2 rx ry
    cases r1 with
    | lst h1 g1 => cases r2 with
      | lst h2 g2 =>
        cases rx; cases ry
        obtain ⟨xs, q1, p1⟩ := lst_is I eF h1
        obtain ⟨ys, q2, p2⟩ := lst_is I eF h2
        refine SeqAt.EqAt.of_refs (fun z => ?_) ?_
        · subst z
          cases h1.symm.trans h2
          exact hl (g1.length.symm.trans g2.length)
        · refine SeqAt.RcAt.lists_lengths p1 p2 ?_ (by omega)
          rw [List.size_toArray, List.size_toArray, ← q1.length, ← q2.length, g1.length, g2.length]
          simpa using hl
  | tups hh ih =>
    intro A hu v w x y r1 r2 rx ry
    by_cases ne : v = w
    · subst ne
      rw [eqD_same (.tups hh) v r1 r2]
      cases r1
      cases rx; cases ry
      exact SeqAt.EqAt.same _
    · cases r1 with
      | tup h1 g1 => cases r2 with
        | tup h2 g2 =>
          cases rx; cases ry
          obtain ⟨xs, zs, p1, p2, l1, l2, q⟩ := both_tup (A := A.in1) I eF h1 h2 g1 g2 fun j h1 h2 v w x y a1 a2 a3 a4 => ih j h1 h2 A.in1 (by show A.units + 1 + _ < cLine; omega) v w x y a1 a2 a3 a4
          refine SeqAt.EqAt.of_refs (fun z => ne (by rw [z])) ?_
          have := SeqAt.RcAt.tuples (A := A) p1 p2 (by omega) q
          rw [l1, l2] at this
          exact this
  | lstF h =>
    intro A hu v w x y r1 r2 rx ry
    cases r1 with
    | lst h1 g1 =>
      cases rx
      obtain ⟨xs, p1⟩ := one_lst I eF h1
      rcases flat_at r2 ry h with rfl | ⟨b, rfl⟩ | ⟨i, t, rfl⟩ | ⟨z, t, rfl⟩
      · exact SeqAt.EqAt.list_none p1 (by omega)
      · exact SeqAt.EqAt.list_bool b p1 (by omega)
      · exact SeqAt.EqAt.list_int i t p1 (by omega)
      · exact SeqAt.EqAt.list_str z t p1 (by omega)
  | tupF h =>
    intro A hu v w x y r1 r2 rx ry
    cases r1 with
    | tup h1 g1 =>
      cases rx
      obtain ⟨xs, p1⟩ := one_tup I eF h1
      rcases flat_at r2 ry h with rfl | ⟨b, rfl⟩ | ⟨i, t, rfl⟩ | ⟨z, t, rfl⟩
      · exact SeqAt.EqAt.tuple_none p1 (by omega)
      · exact SeqAt.EqAt.tuple_bool b p1 (by omega)
      · exact SeqAt.EqAt.tuple_int i t p1 (by omega)
      · exact SeqAt.EqAt.tuple_str z t p1 (by omega)
  | fLst h =>
    intro A hu v w x y r1 r2 rx ry
    cases r2 with
    | lst h1 g1 =>
      cases ry
      obtain ⟨xs, p1⟩ := one_lst I eF h1
      rcases flat_at r1 rx h with rfl | ⟨b, rfl⟩ | ⟨i, t, rfl⟩ | ⟨z, t, rfl⟩
      · exact SeqAt.EqAt.none_list p1 (by omega)
      · exact SeqAt.EqAt.bool_list b p1 (by omega)
      · exact SeqAt.EqAt.int_list i t p1 (by omega)
      · exact SeqAt.EqAt.str_list z t p1 (by omega)
  | fTup h =>
    intro A hu v w x y r1 r2 rx ry
    cases r2 with
    | tup h1 g1 =>
      cases ry
      obtain ⟨xs, p1⟩ := one_tup I eF h1
      rcases flat_at r1 rx h with rfl | ⟨b, rfl⟩ | ⟨i, t, rfl⟩ | ⟨z, t, rfl⟩
      · exact SeqAt.EqAt.none_tuple p1 (by omega)
      · exact SeqAt.EqAt.bool_tuple b p1 (by omega)
      · exact SeqAt.EqAt.int_tuple i t p1 (by omega)
      · exact SeqAt.EqAt.str_tuple z t p1 (by omega)
  | lstTup =>
    intro A hu v w x y r1 r2 rx ry
    cases r1 with
    | lst h1 g1 => cases r2 with
      | tup h2 g2 =>
        cases rx; cases ry
        obtain ⟨xs, p1⟩ := one_lst I eF h1
        obtain ⟨ys, p2⟩ := one_tup I eF h2
        exact SeqAt.EqAt.list_tuple p1 p2 (by omega)
  | tupLst =>
    intro A hu v w x y r1 r2 rx ry
    cases r1 with
    | tup h1 g1 => cases r2 with
      | lst h2 g2 =>
        cases rx; cases ry
        obtain ⟨xs, p1⟩ := one_tup I eF h1
        obtain ⟨ys, p2⟩ := one_lst I eF h2
        exact SeqAt.EqAt.tuple_list p1 p2 (by omega)
  | dk0 =>
    intro A hu v w x y r1 r2 rx ry
    cases r1 with
    | dk h1 g1 => cases r2 with
      | dk h2 g2 =>
        cases g1; cases g2
        cases rx; cases ry
        exact eq_dic (dic0_of (I.hok _ _ (eF _ _ h1))) (dic0_of (I.hok _ _ (eF _ _ h2))) (by omega)
  | dkBl =>
    intro A hu v w x y r1 r2 rx ry
    cases r1 with
    | dk h1 g1 =>
      cases r2
      cases g1
      cases rx; cases ry
      exact dic_bool _ (dic0_of (I.hok _ _ (eF _ _ h1))) (by omega)
end
end AL
namespace AL
open PySem PySem.Spec PyProof.Rows L2
variable {B : Bs}
def aFrzO (i : Nat) (a : AS') : AS' := fun E s C => match s[i]? with
  | some (some (.ce p)) => aFrz i a E s C
  | _ => a E s C
theorem sim_frzO {K : PySem.W.Frag} {t : TS} {a : AS'} (i : Nat) (h : SimS B K t a) : SimS B K t (aFrzO i a) := fun D' E σ s F C R H hE hs hS h0 => by
  unfold aFrzO at h0
  split at h0
  · exact sim_frz i h D' E σ s F C R H hE hs hS h0
  · exact h D' E σ s F C R H hE hs hS h0
theorem ass_frzO {X : Cx} {sts : List Stmt} {t : TS} {a : AS'} (i : Nat) (h : ASs B X sts t a) : ASs B X sts t (aFrzO i a) := ⟨h.ps, sim_frzO i h.sim⟩
section
variable {a : AS'} {s : ASt} {C : AH} {E : AEnds}
theorem g_frzOL {i : Nat} {p : Addr} {ds : List D} (h0 : s[i]? = some (some (.ce p))) (h1 : C p = some (.lst ds)) (h : a E (s.set i (some (.lst ds))) (del C p)) : aFrzO i a E s C := by
  unfold aFrzO
  rw [h0]
  exact g_frzL h0 h1 h
theorem g_frzON {i : Nat} {d : D} (h0 : s[i]? = some (some d)) (hd : ∀ p, d ≠ .ce p) (h : a E s C) : aFrzO i a E s C := by
  unfold aFrzO
  rw [h0]
  split
  · rename_i e
    injection e with e
    injection e with e
    exact absurd e (hd _)
  · exact h
end
end AL
namespace AL
open PySem PySem.Spec PyProof.Rows L2
end AL
namespace AL
open PySem PySem.Spec PyProof.Rows L2
open AutoSeq1 (wpAny_loadPart')
variable {B : Bs}
section
variable {X : Cx} {K : PySem.W.Frag}
def rMulSI : R2 := fun x y H Q => ∃ z n, y = .str z ∧ x = .int n ∧ 2 ≤ n ∧ n ≤ 1000 ∧ 1 ≤ z.length ∧ z.length ≤ 1000 ∧ Q (.str (timesL z n.toNat)) H
theorem op_mulSI : OpR X (binaryOp .Mult) rMulSI := by
  intro pins s σ H x y v u Q I rx ry h
  obtain ⟨z, n, rfl, rfl, h1, h2, h3, h4, q⟩ := h
  obtain ⟨t, rfl⟩ := rx
  obtain ⟨t2, rfl⟩ := ry
  have hm : z.length * n.toNat ≤ 1000 * 1000 := Nat.mul_le_mul h4 (by omega)
  refine lm_binaryOp_repeat_right (T := "str") (U := "int") (by decide) (fun s' => typeIs_int s' n t) (typeIs_str s z t2) F.fills_int_mul noFill_str_mul F.slot_int_mul lm_noRepeat_int repeat_str F.slot_int_index.lookup
    (call_gives F.slot_int_mul (typeIs_int s n t) F.entry_int_mul (F.args_int_mul_2 _ _) (AutoIntG3.int___mul___int_str_0 n t z t2)
      ⟨rfl, typeIs_str _ _ _, call_gives F.slot_str_mul (typeIs_str s z t2) F.entry_str_mul (F.args_str_mul_2 _ _) (gives_str_mul z n t2 t ?_ (fun a _ => ?_) (fun a _ => ?_)) ?_⟩)
  · rw [decide_eq_false (by omega), decide_eq_false (by omega)]; rfl
  · have e : (2 ^ 63 - 1) / (1000 : Int) ≤ (2 ^ 63 - 1) / n := by
      refine (Int.le_ediv_iff_mul_le (by omega)).mpr ?_
      have : (2 ^ 63 - 1) / (1000 : Int) * n ≤ (2 ^ 63 - 1) / (1000 : Int) * 1000 := Int.mul_le_mul_of_nonneg_left h2 (by decide)
      have : (2 ^ 63 - 1) / (1000 : Int) * 1000 ≤ 2 ^ 63 - 1 := by decide
      omega
    have e2 : (16000000 : Int) ≤ (2 ^ 63 - 1) / (1000 : Int) := by decide
    omega
  · unfold Builtin.Str.tooLong
    rw [decide_eq_false_iff_not, sizeLine_eq]
    omega
  · rw [if_neg (by omega), if_neg (by simp; omega)]
    refine ⟨?_, ⟨.str _, H, I.tok _, ⟨_, rfl⟩, q⟩⟩
    show (timesL z n.toNat).length ≤ sizeLine
    rw [timesL_len, sizeLine_eq, Nat.mul_comm]
    omega
def aMulSI : D → D → AH → (D → AH → Prop) → Prop := fun x y C P => match x, y with
  | .int n, .str z => 2 ≤ n ∧ n ≤ 1000 ∧ 1 ≤ z.length ∧ z.length ≤ 1000 ∧ P (.str (timesL z n.toNat)) C
  | _, _ => False
theorem ao_mulSI : AOp B X (binaryOp .Mult) rMulSI aMulSI := ⟨op_mulSI, by
  intro v w d e F C R H Q P hS r1 r2 h k
  unfold aMulSI at h
  split at h
  · cases r1; cases r2
    exact ⟨_, _, rfl, rfl, h.1, h.2.1, h.2.2.1, h.2.2.2.1, k _ _ F C H (Ex.refl F) hS (.str _) h.2.2.2.2⟩
  · exact h.elim⟩
theorem tuple_mulS (l : Addr) (items : Array Value) (n : Nat) (dd : Option Addr) (sl : Array (Option Value)) (x : Int) (u : Tok) (c0 : (decide (x < -(2 ^ 63)) || decide (x ≥ 2 ^ 63)) = false) (c1 : (items.isEmpty || x == 1) = true) :
    Meets (Builtin.«tuple.__mul__» ⟨[.ref l, .int x u], []⟩) (fun _ R s => s.heap.get? l = some { cls := .type "tuple", dict := dd, data := .seq items n, slots := sl } ∧
      R (.ok (.ret (Value.ref l))) s) :=
  .of_wp fun prog w A R s h => by
    obtain ⟨hp, g, d, tk, os⟩ := s
    obtain ⟨hl, h⟩ := h
    have f1 := AutoSeq1.idx_int
    wp_walk using wpAny_loadPart' hl
    repeat (first
      | (refine wpAny_ite_false (decide_eq_false (by rw [c0]; exact Bool.false_ne_true)) ?_; wp_walk using wpAny_loadPart' hl)
      | (refine wpAny_ite_true (decide_eq_true c1) ?_; wp_walk using wpAny_loadPart' hl))
    exact ⟨_, rfl, h⟩
def rRepS (K : PySem.W.Frag) : R2 := fun x y H Q => ∃ l k xs, x = .ref l ∧ y = .int k ∧ SqT K H l xs ∧ (xs = [] ∨ k = 1) ∧ 1 ≤ k ∧ k ≤ 1000 ∧ Q (.ref l) H
theorem op_repS : OpR X (binaryOp .Mult) (rRepS X.K) := by
  intro pins s σ H x y v u Q I rx ry h
  obtain ⟨l, k, xs, rfl, rfl, hT, hne, h1, h2, q⟩ := h
  cases rx
  obtain ⟨t, rfl⟩ := ry
  obtain ⟨its, r, ⟨⟨cls, dd, data, sl⟩, ho, hc, n, hd⟩, hs⟩ := I.tuple hT
  simp only at hc hd
  subst hc hd
  have hle : its.length = xs.length := r.length.symm
  have c0 : (decide (k < -(2 ^ 63)) || decide (k ≥ 2 ^ 63)) = false := by
    rw [decide_eq_false (by omega), decide_eq_false (by omega)] <;> rfl
  have c1 : (its.toArray.isEmpty || k == 1) = true := by
    rcases hne with e | e
    · rw [e] at hle
      rw [List.eq_nil_of_length_eq_zero hle]
      rfl
    · rw [e]
      simp
  refine wpAny_binaryOp_repeat_ref (T := "tuple") (U := "int") (by decide) ⟨_, ho, rfl⟩ (fun s' => typeIs_int s' k t) noFill_tuple_mul F.fills_int_mul F.slot_int_rmul repeat_tuple F.slot_int_index.lookup
    (call_meets F.slot_int_rmul (typeIs_int s k t) F.entry_int_rmul (F.args_int_rmul_2 _ _) (int_rmul_tuple k t l its.toArray n dd sl)
      ⟨ho, rfl, ⟨_, ho, rfl⟩, call_meets F.slot_tuple_mul ⟨_, ho, rfl⟩ F.entry_tuple_mul (F.args_tuple_mul_2 _ _) (tuple_mulS l its.toArray n dd sl k t c0 c1) ⟨ho, ?_⟩⟩)
  exact ⟨.ref l, H, I, rfl, q⟩
def rRepTN (K : PySem.W.Frag) : R2 := fun x y H Q => ∃ l k xs, x = .ref l ∧ y = .int k ∧ SqT K H l xs ∧ xs ≠ [] ∧ 2 ≤ k ∧ k ≤ 1000 ∧ xs.length ≤ 1000 ∧ NewT (List.replicate k.toNat xs).flatten Q H
theorem rep_len {α : Type} (m : Nat) (l : List α) : (List.replicate m l).flatten.length = m * l.length := by
  induction m with
  | zero => simp
  | succ m ih => rw [List.replicate_succ, List.flatten_cons, List.length_append, ih, Nat.succ_mul, Nat.add_comm]
theorem op_repTN : OpR X (binaryOp .Mult) (rRepTN X.K) := by
  intro pins s σ H x y v u Q I rx ry h
  obtain ⟨l, k, xs, rfl, rfl, hT, hne, h1, h2, hz, q⟩ := h
  cases rx
  obtain ⟨t, rfl⟩ := ry
  obtain ⟨its, r, ⟨⟨cls, dd, data, sl⟩, ho, hc, n, hd⟩, _⟩ := I.tuple hT
  dsimp only at hc hd
  subst hc hd
  have hle : its.length = xs.length := r.length.symm
  have hpos : 0 < its.length := by rw [hle]; exact List.length_pos_iff.mpr hne
  have hemp : its.toArray.isEmpty = false := by
    cases its with
    | nil => exact absurd hpos (Nat.lt_irrefl _)
    | cons a b => rfl
  have hsz : its.toArray.size = xs.length := by rw [List.size_toArray, hle]
  have hml : ((xs.length : Nat) : Int) * k ≤ 1000000 := by
    have := Int.mul_le_mul_of_nonneg_right (show ((xs.length : Nat) : Int) ≤ 1000 by omega) (show 0 ≤ k by omega)
    omega
  have hnl : k.toNat * xs.length ≤ 1000000 := Nat.mul_le_mul (show k.toNat ≤ 1000 by omega) hz
  have z1 : (decide (k < -(2 ^ 63)) || decide (k ≥ 2 ^ 63)) = false := by simp; omega
  have z2 : (its.toArray.isEmpty || k == 1) = false := by rw [hemp, Bool.false_or]; exact beq_eq_false_iff_ne.mpr (by omega)
  have z3 : (decide (k ≤ 0) || its.toArray.isEmpty) = false := by rw [hemp, Bool.or_false]; exact decide_eq_false (by omega)
  have z4 : Builtin.Tuple.tupleTooMany (((its.toArray.size : Nat) : Int) * k) = false := by
    rw [hsz]
    unfold Builtin.Tuple.tupleTooMany
    rw [sizeLine_eq]
    exact decide_eq_false (by omega)
  have z5 : (List.foldl (fun x1 x2 => x1 ++ x2) #[] (List.replicate k.toNat its.toArray)).size ≤ sizeLine := by
    rw [size_rep, List.size_toArray, rep_len, hle, sizeLine_eq]
    omega
  have fin : EP X pins σ Q (.ref s.heap.objs.size) { s with heap := s.heap.push { cls := .type "tuple", data := .seq (List.foldl (fun x1 x2 => x1 ++ x2) #[] (List.replicate k.toNat its.toArray)) } } := by
    rw [size_rep]
    exact laidT (tk := s.toks) I (by rw [rep_len, sizeLine_eq]; omega) (r.rep k.toNat) q
  exact wpAny_binaryOp_repeat_ref (T := "tuple") (U := "int") (by decide) ⟨_, ho, rfl⟩ (fun s' => typeIs_int s' k t) noFill_tuple_mul F.fills_int_mul F.slot_int_rmul repeat_tuple F.slot_int_index.lookup
    (call_meets F.slot_int_rmul (typeIs_int s k t) F.entry_int_rmul (F.args_int_rmul_2 _ _) (int_rmul_tuple k t l its.toArray n dd sl)
      ⟨ho, rfl, ⟨_, ho, rfl⟩, call_meets F.slot_tuple_mul ⟨_, ho, rfl⟩ F.entry_tuple_mul (F.args_tuple_mul_2 _ _)
        (tuple_mulW l its.toArray n dd sl k t z1 z2 z3 (by rw [hsz]; omega) z4 z5) ⟨ho, fin⟩⟩)
def aRepT : D → D → AH → (D → AH → Prop) → Prop := fun x y C P => match x, y with
  | .tup ds, .int k => 1 ≤ k ∧ k ≤ 1000 ∧ ds.length ≤ 1000 ∧ P (.tup (List.replicate k.toNat ds).flatten) C
  | _, _ => False
theorem ao_repT (hK : X.K = K := by rfl) : AOp B X (binaryOp .Mult) (fun x y H Q => rRepS K x y H Q ∨ rRepTN K x y H Q) aRepT := by
  subst hK
  refine ⟨op_repS.or op_repTN, ?_⟩
  intro v w d e F C R H Q P hS r1 r2 h k
  unfold aRepT at h
  split at h
  · rename_i ds i
    cases r2
    obtain ⟨h1, h2, h3, h4⟩ := h
    cases r1 with
    | @tup a xs us g1 g2 =>
      by_cases hk : ds = [] ∨ i = 1
      · refine .inl ⟨a, i, xs, rfl, rfl, g1.sq hS.ex, ?_, h1, h2, k _ _ F C H (Ex.refl F) hS ?_ h4⟩
        · rcases hk with e | e
          · subst e
            cases g2
            exact .inl rfl
          · exact .inr e
        · have : (List.replicate i.toNat ds).flatten = ds := by
            rcases hk with e | e
            · subst e
              simp
            · subst e
              simp
          rw [this]
          exact .tup g1 g2
      · refine .inr ⟨a, i, xs, rfl, rfl, g1.sq hS.ex, fun e => ?_, by omega, h2, by rw [g2.length]; exact h3, fun p ob hob hp => ?_⟩
        · subst e
          cases g2
          exact hk (.inl rfl)
        · have e : Ex F (upd F p (.frz ob (.tup (List.replicate i.toNat xs).flatten))) := Ex.new (hS.freeF hp)
          exact k _ _ _ C _ e (hS.newF hp _) (.tup (.frz hob upd_same) ((g2.times _).mono e)) h4
  · exact h.elim
def eStr (z : Str) : D → Bool | .str s => decide (s = z) | _ => false
def vStr (z : Str) : Value → Bool | .str s _ => decide (s = z) | _ => false
def rCntT (K : PySem.W.Frag) : V → List V → Hp → VK → Prop := fun x vs H Q => ∃ F ds z, Ex F H ∧ Rep K F x (.tup ds) ∧ vs = [.str z] ∧ (∀ d ∈ ds, EqD 20 d (.str z) (eStr z d)) ∧ Q (.int (ds.countP (eStr z) : Nat)) H
theorem cnt_vals {F : Hp} {z : Str} : ∀ {ds : List D} {vs : List V} {us : List Value}, RepL X.K F vs ds → L2.Vals vs us → us.countP (vStr z) = ds.countP (eStr z) ∧ ∀ u ∈ us, ∃ v d, v ∈ vs ∧ d ∈ ds ∧ Rep X.K F v d ∧ L2.RelV v u ∧ vStr z u = eStr z d
  | _, _, _, .nil, .nil => ⟨rfl, fun u hu => by cases hu⟩
  | d :: ds, v :: vs, u :: us, .cons r rs, .cons q qs => by
    obtain ⟨h1, h2⟩ := cnt_vals (z := z) rs qs
    have h3 : vStr z u = eStr z d := by
      cases r with
      | str x => obtain ⟨t, rfl⟩ := q; rfl
      | int x => obtain ⟨t, rfl⟩ := q; rfl
      | non => cases q; rfl
      | bl => cases q; rfl
      | _ => cases q; rfl
    refine ⟨by rw [List.countP_cons, List.countP_cons, h1, h3], fun w hw => ?_⟩
    rcases List.mem_cons.mp hw with e | e
    · subst e
      exact ⟨v, d, List.mem_cons_self, List.mem_cons_self, r, q, h3⟩
    · obtain ⟨v', d', a, b, c⟩ := h2 w e
      exact ⟨v', d', List.mem_cons_of_mem _ a, List.mem_cons_of_mem _ b, c⟩
theorem mt_cntT (hu : X.A.units + 64 < cLine) : MtR X "tuple.count" (rCntT X.K) := by
  intro pins s σ H x vs v us Q I rx rv h
  obtain ⟨F, ds, z, eF, r, rfl, he, q⟩ := h
  obtain ⟨u, rfl, ru⟩ := rv.one
  cases r with
  | @tup a xs _ g1 g2 =>
    cases rx
    obtain ⟨its, r2, ht⟩ := tup_is I eF g1.1
    obtain ⟨⟨cls, dd, data, sl⟩, ho, hc, n, hd⟩ := ht
    simp only at hc hd
    subst hc hd
    obtain ⟨c1, c2⟩ := cnt_vals (z := z) g2 r2
    refine call_meets PySem.F.slot_tuple_count ⟨_, ho, rfl⟩ PySem.F.entry_tuple_count (PySem.F.args_tuple_count_2 _ _) (SeqAt.tuple_countAt a its.toArray n dd sl u (vStr z)) ⟨ho, fun y hy => ?_, ?_⟩
    · obtain ⟨v', d', _, hd', rr, rl, e⟩ := c2 y (by simpa using hy)
      rw [e]
      exact eqD_at I eF (he d' hd') X.A.in1 (by show X.A.units + 1 + _ < cLine; omega) v' (.str z) y u rr (.str z) rl ru
    · rw [List.toList_toArray, c1]
      exact ⟨.int _, H, I.tok _, ⟨_, rfl⟩, q⟩
def aCountT : D → ASp := fun x ds C P => match x, ds with
  | .tup us, [.str z] => (∀ d ∈ us, EqD 20 d (.str z) (eStr z d)) ∧ P (.int (us.countP (eStr z) : Nat)) C
  | _, _ => False
theorem am_countT (hu : X.A.units + 64 < cLine) (hK : X.K = K := by rfl) : AMt B X "tuple.count" (rCntT K) aCountT := by
  subst hK
  exact ⟨mt_cntT hu, by
  intro v d vs ds F C R H Q P hS r1 r2 h k
  unfold aCountT at h
  split at h
  · cases r2 with
    | cons r2 r3 =>
      cases r3
      cases r2
      exact ⟨F, _, _, hS.ex, r1, rfl, h.1, k _ _ F C H (Ex.refl F) hS (.int _) h.2⟩
  · exact h.elim⟩
end
end AL
namespace AL
open PySem PySem.Spec PyProof.Rows L2
variable {B : Bs}
def aLindex : D → ASp := fun x ds C P => match ds with
  | [.int i] => ∃ (es : List D) (ks : List Int), asLr C x = some es ∧ es = ks.map D.int ∧ i ∈ ks ∧ ∀ j : Nat, ks[j]? = some i → P (.int j) C
  | _ => False
theorem first_at {i : Int} : ∀ {ks : List Int}, i ∈ ks → ∃ j : Nat, ks[j]? = some i ∧ ∀ m, m < j → ∀ k, ks[m]? = some k → k ≠ i
  | k :: ks, h => by
    by_cases e : k = i
    · exact ⟨0, by rw [e]; rfl, fun m hm => absurd hm (Nat.not_lt_zero _)⟩
    · rcases List.mem_cons.mp h with h | h
      · exact absurd h.symm e
      · obtain ⟨j, h1, h2⟩ := first_at h
        refine ⟨j + 1, by simpa using h1, fun m hm k' hk => ?_⟩
        cases m with
        | zero => simp at hk; rw [← hk]; exact e
        | succ m => exact h2 m (by omega) k' (by simpa using hk)
theorem am_lindex {X : Cx} {K : PySem.W.Frag} (hK : X.K = K := by rfl) : AMt B X "list.index" (rIndex K) aLindex := by
  subst hK
  exact ⟨mt_index, by
  intro v d vs ds F C R H Q P hS r1 r2 h k
  unfold aLindex at h
  split at h
  · cases r2 with
    | cons r2 r3 =>
      cases r3
      cases r2
      rename_i i
      obtain ⟨es, ks, h1, h2, h3, h4⟩ := h
      subst h2
      obtain ⟨a, xs, rfl, g1, g2⟩ := asLr_ok hS r1 h1
      rw [g2.ofInts] at g1
      obtain ⟨j, j1, j2⟩ := first_at h3
      refine ⟨a, _, .int i, j, .int i, rfl, rfl, g1, rfl, List.all_eq_true.mpr fun x hx => by obtain ⟨n, _, rfl⟩ := List.mem_map.mp hx; rfl, by rw [List.getElem?_map, j1]; rfl, by show ((i : Int) == i) = true; simp, fun m z' hm hz => ?_, k _ _ F C H (Ex.refl F) hS (.int _) (h4 j j1)⟩
      rw [List.getElem?_map] at hz
      cases e : ks[m]? with
      | none => rw [e] at hz; cases hz
      | some n =>
        rw [e] at hz
        cases hz
        have := j2 m hm n e
        show ((n : Int) == i) = false
        simpa using this
  · exact h.elim⟩
end AL
namespace AL
open PySem PySem.Spec PyProof.Rows L2
open PyProof.Rows (envOfC)
variable {B : Bs}
/-- what is asked where a class's exception flies out, the slots and the cells as they are then -/
abbrev AX' := ASt → Str → AH → Prop
abbrev ASpX := List D → AH → (D → AH → Prop) → (Str → AH → Prop) → Prop
def aRaise (W : AX') (nm : Str) : AS' := fun _ s C => W s nm C
section
variable {X : Cx} {K : PySem.W.Frag} {W : AX'} {Wk : WX} {x m : Str} {j : Nat} {p p2 p3 pos : Pos}
def aCallX (W : AX') (asp : ASpX) (a : AA') : AE' := fun s C P => a s C fun ds C1 => asp ds C1 P (W s)
variable {e : Expr} {es : List Expr} {n : Nat} {t : TA} {a : AA'} {asp : ASpX} {k i : Nat}
end
def aBodyX (n : Nat) (b : AX' → AS') : ASpX := fun ds C P PX => b (fun _ nm C' => PX nm C') ⟨fun _ C' => P .non C', P, fun _ _ => False, fun _ _ => False⟩ (ds.map some ++ List.replicate (n - ds.length) none) C
def aHand (sub : Str → Str → Option Bool) (Wout : AX') (E : AEnds) : List (Str × AS') → AX'
  | [] => Wout
  | (c, h) :: r => fun s nm C => match sub nm c with | some true => h E s C | some false => aHand sub Wout E r s nm C | none => False
def aTry (sub : Str → Str → Option Bool) (body : AX' → AS') (hds : List (Str × AS')) (Wout : AX') : AS' := fun E s C => body (aHand sub Wout E hds) E s C
inductive AHds (X : Cx) : List ExceptHandler → List (Value × (Addr → Value → Option Addr → TS)) → List (Str × AS') → Prop
  | nil : AHds X [] [] []
  | cons {x : Str} {c : Value} {ts : TS} {ha : AS'} {b₀ : Stmt} {suite : List Stmt} {np pos' : Pos} {hds : List ExceptHandler} {l : List (Value × (Addr → Value → Option Addr → TS))} {la : List (Str × AS')} (hm : X.mg x = some c) (hg : Gl X x) (hdb : (x == ("__debug__" : Str)) = false)
      (hsu : ∀ (B : Bs) (hw : B.g = ⟨X.w, X.mg⟩) (a : Addr) (oe : Obj) (pn : List (Addr × Obj)), ASs B (X.suite a ((a, oe) :: pn)) (b₀ :: suite) ts ha) (r : AHds X hds l la) :
      AHds X (.ExceptHandler (some (.Name x np)) none (b₀ :: suite) pos' :: hds) ((c, fun _ _ _ => ts) :: l) ((x, ha) :: la)
section
variable {X : Cx} {body : List Stmt} {h₀ : ExceptHandler} {hds : List ExceptHandler} {l : List (Value × (Addr → Value → Option Addr → TS))} {la : List (Str × AS')} {pos : Pos} {tb : WX → TS} {W : AX'} {Wk : WX} {ab : AX' → AS'} {sub : Str → Str → Option Bool}
theorem AHds.ok {hds : List ExceptHandler} (h : AHds X hds l la) : HdsOk X hds l := by
  induction h with
  | nil => exact .nil
  | cons hm hg hdb hsu r ih => exact .cons ⟨hg, hdb, .inl hm⟩ (fun a oe cls d pn _ _ => (hsu (Bs.nil ⟨X.w, X.mg⟩) rfl a oe pn).ps) ih
/-- a def that lets nothing out, from one whose walk tells so -/
theorem AE.nox {e : Expr} {t : TE} {a : AE'} (h : AE B X.nox e t a) : AE B X e t a := ⟨h.pe.nox, h.sim⟩
theorem ASs.nox {st : List Stmt} {t : TS} {a : AS'} (h : ASs B X.nox st t a) : ASs B X st t a := ⟨h.ps.nox, h.sim⟩
theorem PS.nox {st : Stmt} {t : TS} (h : PS X.nox st t) : PS X st t := ⟨fun pins s σ H D I hw =>
  wpAny_mono (h.run pins s σ H D (I.wish _) hw) (fun _ _ q => q.unwish) fun _ _ z => False.elim z⟩
theorem AS.nox {st : Stmt} {t : TS} {a : AS'} (h : AS B X.nox st t a) : AS B X st t a := ⟨PS.nox h.ps, h.sim⟩
theorem AT.nox {e : Expr} {t : TT} {a : AT'} (h : AT B X.nox e t a) : AT B X e t a := ⟨h.pt.nox, h.sim⟩
end
section
variable {C : AH} {P : D → AH → Prop} {PX : Str → AH → Prop} {W : AX'} {E : AEnds} {s : ASt}
theorem g_bodyX {n : Nat} {b : AX' → AS'} {ds : List D} {s : ASt} (h0 : ds.map some ++ List.replicate (n - ds.length) none = s) (h : b (fun _ nm C' => PX nm C') ⟨fun _ C' => P .non C', P, fun _ _ => False, fun _ _ => False⟩ s C) : aBodyX n b ds C P PX := by
  subst h0
  exact h
theorem g_callX {asp : ASpX} {a : AA'} (h : a s C fun ds C1 => asp ds C1 P (W s)) : aCallX W asp a s C P := h
theorem g_raise {nm : Str} (h : W s nm C) : aRaise W nm E s C := h
theorem g_try {sub : Str → Str → Option Bool} {body : AX' → AS'} {hds : List (Str × AS')} (h : body (aHand sub W E hds) E s C) : aTry sub body hds W E s C := h
end
end AL
namespace AL
open PySem PySem.Spec PyProof.Rows L2
end AL
namespace AL
open PySem PySem.Spec PyProof.Rows L2
variable {B : Bs}
section
variable {X : Cx} {pos cpos apos : Pos} {o i e : Expr} {to ti te : TE} {ao ai ae : AE'} {K : PySem.W.Frag}
def aGet1 (o i : AE') : AE' := fun s C P => o s C fun x C1 => (asK C1 x).isSome = true ∧ i s C1 fun y C2 => match asK C2 x, keyOf y with
  | some es, some k => P ((valD es k).getD .non) C2
  | _, _ => False
def aGet2 (o i e : AE') : AE' := fun s C P => o s C fun x C1 => (asK C1 x).isSome = true ∧ i s C1 fun y C2 => e s C2 fun z C3 => match asK C3 x, keyOf y with
  | some es, some k => P ((valD es k).getD z) C3
  | _, _ => False
/-- {k: v}, k of any kind that may be -/
def aDispV (ak av : AE') : AE' := fun s C P => ak s C fun dk C1 => av s C1 fun dv C2 => match keyOf dk with
  | some k => ∀ p, C2 p = none → P (.ce p) (put C2 p (.dk [(k, dv)]))
  | none => False
end
section
variable {C : AH} {P : D → AH → Prop} {s : ASt} {o i e : AE'}
def kGet1 (i : AE') (s : ASt) (P : D → AH → Prop) : D → AH → Prop := fun x C1 => (asK C1 x).isSome = true ∧ i s C1 fun y C2 => match asK C2 x, keyOf y with
  | some es, some k => P ((valD es k).getD .non) C2
  | _, _ => False
theorem g_get1 (h : o s C (kGet1 i s P)) : aGet1 o i s C P := h
def kGet2 (i e : AE') (s : ASt) (P : D → AH → Prop) : D → AH → Prop := fun x C1 => (asK C1 x).isSome = true ∧ i s C1 fun y C2 => e s C2 fun z C3 => match asK C3 x, keyOf y with
  | some es, some k => P ((valD es k).getD z) C3
  | _, _ => False
theorem g_get2 (h : o s C (kGet2 i e s P)) : aGet2 o i e s C P := h
def kDispV (P : D → AH → Prop) (dk : D) : D → AH → Prop := fun dv C2 => match keyOf dk with
  | some k => ∀ p, C2 p = none → P (.ce p) (put C2 p (.dk [(k, dv)]))
  | none => False
theorem g_dispV {ak av : AE'} (h : ak s C fun dk C1 => av s C1 (kDispV P dk)) : aDispV ak av s C P := h
theorem g_kDispVI {i : Int} {dv : D} (h : ∀ p, C p = none → P (.ce p) (put C p (.dk [(.inl i, dv)]))) : kDispV P (.int i) dv C := h
end
end AL
namespace AL
open PySem PySem.Spec PyProof.Rows L2
variable {B : Bs}
abbrev KN : List (NestedKey × Addr × V) → List (NestedKey × Addr × Value) → Prop := Paired fun x y => x.1 = y.1 ∧ x.2.1 = y.2.1 ∧ RelV x.2.2 y.2.2
def valN {α : Type} (xs : List (NestedKey × Addr × α)) (k : NestedKey) : Option α := (xs.find? fun x => decide (x.1 = k)).map (·.2.2)
theorem valN_pos {α : Type} {x : NestedKey × Addr × α} {xs : List (NestedKey × Addr × α)} {k : NestedKey} (e : x.1 = k) : valN (x :: xs) k = some x.2.2 := by simp [valN, e]
theorem valN_neg {α : Type} {x : NestedKey × Addr × α} {xs : List (NestedKey × Addr × α)} {k : NestedKey} (e : ¬ x.1 = k) : valN (x :: xs) k = valN xs k := by simp [valN, e]
def putN (xs : List (NestedKey × Addr × V)) (k : NestedKey) (a : Addr) (v : V) : List (NestedKey × Addr × V) :=
  if (valN xs k).isSome = true then xs.map (fun x => if x.1 = k then (x.1, x.2.1, v) else x) else xs ++ [(k, a, v)]
theorem KN.val {xs : List (NestedKey × Addr × V)} {ys : List (NestedKey × Addr × Value)} (r : KN xs ys) (k : NestedKey) : RelO (valN xs k) ((atKey ys k).map (·.2)) := by
  induction r with
  | nil => exact True.intro
  | @cons p q ps qs h t ih =>
    obtain ⟨h1, _, h2⟩ := h
    by_cases e : p.1 = k
    · have e' : q.1 = k := h1.symm.trans e
      have b : atKey (q :: qs) k = some q.2 := by simp [atKey, List.find?_cons, e']
      rw [valN_pos e, b]; exact h2
    · have e' : ¬ q.1 = k := fun z => e (h1.trans z)
      have b : atKey (q :: qs) k = atKey qs k := by simp [atKey, List.find?_cons, e']
      rw [valN_neg e, b]; exact ih
theorem KN.put {xs : List (NestedKey × Addr × V)} {ys : List (NestedKey × Addr × Value)} (r : KN xs ys) (k : NestedKey) (b : Addr) {y : V} {u : Value} (ry : RelV y u) : KN (putN xs k b y) (storedH ys k b u) := by
  have e : (valN xs k).isSome = (atKey ys k).isSome := by rw [(r.val k).isSome_eq, Option.isSome_map]
  unfold putN storedH
  rw [e]
  by_cases q : (atKey ys k).isSome = true
  · rw [if_pos q, if_pos q]
    clear e q
    induction r with
    | nil => exact .nil
    | @cons p q ps qs h t ih =>
      rw [List.map_cons, List.map_cons]
      refine .cons ?_ ih
      obtain ⟨h1, h2, h3⟩ := h
      unfold putAt
      by_cases e : p.1 = k
      · rw [if_pos e, if_pos (h1.symm.trans e)]; exact ⟨h1, h2, ry⟩
      · rw [if_neg e, if_neg (fun z => e (h1.trans z))]; exact ⟨h1, h2, h3⟩
  · rw [if_neg q, if_neg q]; exact Paired.snoc r ⟨rfl, rfl, ry⟩
/-- the keys of the entries stand -/
def KeysN (H : Hp) (xs : List (NestedKey × Addr × V)) : Prop := ∀ x ∈ xs, VKey H (.ref x.2.1) x.1 ∧ x.1.depth ≤ 8
theorem KeysN.put {H : Hp} {xs : List (NestedKey × Addr × V)} (r : KeysN H xs) {k : NestedKey} {a : Addr} {v : V} (hk : VKey H (.ref a) k) (hd : k.depth ≤ 8) : KeysN H (putN xs k a v) := by
  unfold putN
  intro x hx
  split at hx
  · obtain ⟨y, hy, rfl⟩ := List.mem_map.mp hx
    split
    · exact r y hy
    · exact r y hy
  · rcases List.mem_append.mp hx with q | q
    · exact r x q
    · rw [List.mem_singleton.mp q]; exact ⟨hk, hd⟩
end AL
namespace AL
open PySem PySem.Spec PyProof.Rows L2
end AL
namespace AL
open PySem PySem.Spec PyProof.Rows L2
variable {B : Bs}
mutual
def keyN : D → Option NestedKey
  | .non => some .none
  | .bl b => some (.num (if b = true then 1 else 0))
  | .int i => some (.num i)
  | .str x => some (.text x)
  | .tup ds => (keyNs ds).map .tup
  | _ => none
def keyNs : List D → Option (List NestedKey)
  | [] => some []
  | d :: ds => match keyN d, keyNs ds with | some k, some ks => some (k :: ks) | _, _ => none
end
def isTup : D → Bool
  | .tup _ => true
  | _ => false
/-- a tuple that is a key -/
def keyT (d : D) : Option NestedKey := if isTup d = true then (match keyN d with | some k => if k.depth ≤ 8 then some k else none | none => none) else none
def asN (C : AH) : D → Option (List (NestedKey × D))
  | .ce p => (match C p with | some (.dn es) => some es | _ => none)
  | _ => none
def valND (es : List (NestedKey × D)) (k : NestedKey) : Option D := (es.find? fun kv => decide (kv.1 = k)).map (·.2)
def putND (es : List (NestedKey × D)) (k : NestedKey) (d : D) : List (NestedKey × D) :=
  if (valND es k).isSome = true then es.map (fun kv => if kv.1 = k then (kv.1, d) else kv) else es ++ [(k, d)]
/-- what a dict holds at a key; none: not to be told -/
def lookD (C : AH) (x y : D) : Option (Option D) := match asK C x with
  | some es => (match keyOf y with | some k => some (valD es k) | none => if isNon y = true then some none else none)
  | none => (match asN C x, keyT y with | some es, some k => some (valND es k) | _, _ => none)
section
variable {K : PySem.W.Frag} {F F' : Hp} {C : AH} {R H : Hp}
theorem RepN.val (k : NestedKey) : ∀ {xs : List (NestedKey × Addr × V)} {es : List (NestedKey × D)}, RepN K F xs es → (match valND es k with | some d => ∃ v, valN xs k = some v ∧ Rep K F v d | none => valN xs k = none)
  | _, _, .nil => rfl
  | (j, a, v) :: xs, (_, d) :: es, .cons q b r t => by
    have ih := RepN.val k t
    by_cases e : j = k
    · subst e
      rw [valN_pos rfl]
      simp only [valND, List.find?_cons, decide_true, Option.map_some]
      exact ⟨v, rfl, r⟩
    · rw [valN_neg e]
      simp only [valND, List.find?_cons, decide_eq_false e]
      exact ih
theorem RepN.len : ∀ {xs : List (NestedKey × Addr × V)} {es : List (NestedKey × D)}, RepN K F xs es → xs.length = es.length
  | _, _, .nil => rfl
  | _, _, .cons _ _ _ t => by rw [List.length_cons, List.length_cons, RepN.len t]
theorem RepN.some_eq (k : NestedKey) {xs : List (NestedKey × Addr × V)} {es : List (NestedKey × D)} (h : RepN K F xs es) : (valN xs k).isSome = (valND es k).isSome := by
  have := h.val k
  cases q : valND es k with
  | none => rw [q] at this; rw [show valN xs k = none from this]; rfl
  | some d => rw [q] at this; obtain ⟨v, e, _⟩ := this; rw [e]; rfl
theorem RepN.repl (k : NestedKey) {v : V} {d : D} (r : Rep K F v d) : ∀ {xs : List (NestedKey × Addr × V)} {es : List (NestedKey × D)}, RepN K F xs es → RepN K F (xs.map fun x => if x.1 = k then (x.1, x.2.1, v) else x) (es.map fun kv => if kv.1 = k then (kv.1, d) else kv)
  | _, _, .nil => .nil
  | (j, a, _) :: _, _, .cons q1 q2 q t => by
    rw [List.map_cons, List.map_cons]
    by_cases e : j = k
    · rw [if_pos e, if_pos e]; exact .cons q1 q2 r (RepN.repl k r t)
    · rw [if_neg e, if_neg e]; exact .cons q1 q2 q (RepN.repl k r t)
theorem RepN.snoc {k : NestedKey} {a : Addr} {v : V} {d : D} (h1 : VKey F (.ref a) k) (h2 : k.depth ≤ 8) (r : Rep K F v d) : ∀ {xs : List (NestedKey × Addr × V)} {es : List (NestedKey × D)}, RepN K F xs es → RepN K F (xs ++ [(k, a, v)]) (es ++ [(k, d)])
  | _, _, .nil => .cons h1 h2 r .nil
  | _, _, .cons q1 q2 q t => .cons q1 q2 q (RepN.snoc h1 h2 r t)
theorem RepN.put {k : NestedKey} {a : Addr} {v : V} {d : D} (h1 : VKey F (.ref a) k) (h2 : k.depth ≤ 8) (r : Rep K F v d) {xs : List (NestedKey × Addr × V)} {es : List (NestedKey × D)} (h : RepN K F xs es) : RepN K F (putN xs k a v) (putND es k d) := by
  unfold putN putND
  rw [h.some_eq k]
  split
  · exact RepN.repl k r h
  · exact RepN.snoc h1 h2 r h
end
section
variable {X : Cx} {pos cpos apos p2 : Pos} {o i e : Expr} {to ti te : TE} {ao ai a : AE'} {K : PySem.W.Frag}
def aGetN (o i : AE') : AE' := fun s C P => o s C fun x C1 => i s C1 fun y C2 => match lookD C2 x y with
  | some (some d) => P d C2
  | _ => False
def aInN (neg : Bool) (i o : AE') : AE' := fun s C P => i s C fun y C1 => o s C1 fun x C2 => match lookD C2 x y with
  | some r => P (.bl (if neg then !r.isSome else r.isSome)) C2
  | none => False
def isDic (C : AH) (x : D) : Bool := (asK C x).isSome || (asN C x).isSome
def aGet1N (o i : AE') : AE' := fun s C P => o s C fun x C1 => isDic C1 x = true ∧ i s C1 fun y C2 => match lookD C2 x y with
  | some r => P (r.getD .non) C2
  | none => False
/-- d[k] = e -/
def aPutN (o i e : AE') : AS' := fun E s C => e s C fun d C1 => o s C1 fun x C2 => i s C2 fun y C3 => match x with
  | .ce p => (match C3 p with
    | some (.dk es) => (match keyOf y with | some k => es.length < sizeLine ∧ E.nx s (put C3 p (.dk (putD es k d))) | none => False)
    | some (.dn es) => (match keyT y with | some k => es.length < sizeLine ∧ E.nx s (put C3 p (.dn (putND es k d))) | none => False)
    | _ => False)
  | _ => False
end
end AL
namespace AL
open PySem PySem.Spec PyProof.Rows L2
variable {B : Bs}
inductive HdsA (X : Cx) : List ExceptHandler → List (List Value × Nat × TS) → Prop
  | nil : HdsA X [] []
  | cons {x n : Str} {c : Value} {i : Nat} {ts : TS} {b₀ : Stmt} {suite : List Stmt} {np pos' : Pos} {hds : List ExceptHandler} {l : List (List Value × Nat × TS)} (hc : Names X x c) (hi : X.N[i]? = some n) (hln : X.env.kindOf n = some .local)
      (hsu : ∀ (a : Addr) (pn : List (Addr × Obj)), PSs (X.suite a pn) (b₀ :: suite) ts) (r : HdsA X hds l) :
      HdsA X (.ExceptHandler (some (.Name x np)) (some n) (b₀ :: suite) pos' :: hds) (([c], i, ts) :: l)
  | cons2 {x x2 n : Str} {c c2 : Value} {i kk : Nat} {ts : TS} {b₀ : Stmt} {suite : List Stmt} {np np2 tp pos' : Pos} {hds : List ExceptHandler} {l : List (List Value × Nat × TS)} (hc : Names X x c) (hc2 : Names X x2 c2) (hi : X.N[i]? = some n) (hln : X.env.kindOf n = some .local)
      (hsu : ∀ (a : Addr) (pn : List (Addr × Obj)), PSs (X.suite a pn) (b₀ :: suite) ts) (r : HdsA X hds l) :
      HdsA X (.ExceptHandler (some (.Tuple [.Name x np, .Name x2 np2] kk tp)) (some n) (b₀ :: suite) pos' :: hds) (([c, c2], i, ts) :: l)
end AL
namespace AL
open PySem PySem.Spec PyProof.Rows L2
variable {B : Bs}
def goneA (i : Nat) (E : AEnds) : AEnds := ⟨fun s C => E.nx (s.set i none) C, E.rt, fun s C => E.bk (s.set i none) C, fun s C => E.ct (s.set i none) C⟩
/-- whether a class is below one of some, where each is known -/
def anyS (sub : Str → Str → Option Bool) (nm : Str) : List Str → Option Bool
  | [] => some false
  | c :: r => match sub nm c, anyS sub nm r with
    | some b, some d => some (b || d)
    | _, _ => none
def aHandA (sub : Str → Str → Option Bool) (Wout : AX') (E : AEnds) : List (List Str × Nat × AS') → AX'
  | [] => Wout
  | (c, i, h) :: r => fun s nm C => match anyS sub nm c with | some true => ∀ a, C a = none → h (goneA i E) (s.set i (some (.ce a))) (put C a (.exc nm)) | some false => aHandA sub Wout E r s nm C | none => False
def aTryA (sub : Str → Str → Option Bool) (body : AX' → AS') (hds : List (List Str × Nat × AS')) (Wout : AX') : AS' := fun E s C => body (aHandA sub Wout E hds) E s C
inductive AHdsA (X : Cx) : List ExceptHandler → List (List Value × Nat × TS) → List (List Str × Nat × AS') → Prop
  | nil : AHdsA X [] [] []
  | cons {x n : Str} {c : Value} {i : Nat} {ts : TS} {ha : AS'} {b₀ : Stmt} {suite : List Stmt} {np pos' : Pos} {hds : List ExceptHandler} {l : List (List Value × Nat × TS)} {la : List (List Str × Nat × AS')} (hm : X.mg x = some c) (hg : Gl X x) (hdb : (x == ("__debug__" : Str)) = false)
      (hi : X.N[i]? = some n) (hln : X.env.kindOf n = some .local)
      (hsu : ∀ (B : Bs) (hw : B.g = ⟨X.w, X.mg⟩) (a : Addr) (pn : List (Addr × Obj)), ASs B (X.suite a pn) (b₀ :: suite) ts ha) (r : AHdsA X hds l la) :
      AHdsA X (.ExceptHandler (some (.Name x np)) (some n) (b₀ :: suite) pos' :: hds) (([c], i, ts) :: l) (([x], i, ha) :: la)
  | cons2 {x x2 n : Str} {c c2 : Value} {i kk : Nat} {ts : TS} {ha : AS'} {b₀ : Stmt} {suite : List Stmt} {np np2 tp pos' : Pos} {hds : List ExceptHandler} {l : List (List Value × Nat × TS)} {la : List (List Str × Nat × AS')} (hm : X.mg x = some c) (hg : Gl X x) (hdb : (x == ("__debug__" : Str)) = false)
      (hm2 : X.mg x2 = some c2) (hg2 : Gl X x2) (hdb2 : (x2 == ("__debug__" : Str)) = false) (hi : X.N[i]? = some n) (hln : X.env.kindOf n = some .local)
      (hsu : ∀ (B : Bs) (hw : B.g = ⟨X.w, X.mg⟩) (a : Addr) (pn : List (Addr × Obj)), ASs B (X.suite a pn) (b₀ :: suite) ts ha) (r : AHdsA X hds l la) :
      AHdsA X (.ExceptHandler (some (.Tuple [.Name x np, .Name x2 np2] kk tp)) (some n) (b₀ :: suite) pos' :: hds) (([c, c2], i, ts) :: l) (([x, x2], i, ha) :: la)
section
variable {X : Cx} {body : List Stmt} {h₀ : ExceptHandler} {hds : List ExceptHandler} {l : List (List Value × Nat × TS)} {la : List (List Str × Nat × AS')} {pos : Pos} {tb : WX → TS} {W : AX'} {Wk : WX} {ab : AX' → AS'} {sub : Str → Str → Option Bool}
theorem AHdsA.ok {hds : List ExceptHandler} (h : AHdsA X hds l la) : HdsA X hds l := by
  induction h with
  | nil => exact .nil
  | cons hm hg hdb hi hln hsu r ih => exact .cons ⟨hg, hdb, .inl hm⟩ hi hln (fun a pn => (hsu (Bs.nil ⟨X.w, X.mg⟩) rfl a pn).ps) ih
  | cons2 hm hg hdb hm2 hg2 hdb2 hi hln hsu r ih => exact .cons2 ⟨hg, hdb, .inl hm⟩ ⟨hg2, hdb2, .inl hm2⟩ hi hln (fun a pn => (hsu (Bs.nil ⟨X.w, X.mg⟩) rfl a pn).ps) ih
end
section
variable {C : AH} {W : AX'} {E : AEnds} {s : ASt}
theorem g_tryA {sub : Str → Str → Option Bool} {body : AX' → AS'} {hds : List (List Str × Nat × AS')} (h : body (aHandA sub W E hds) E s C) : aTryA sub body hds W E s C := h
end
end AL
namespace AL
open PySem PySem.Spec PyProof.Rows L2
variable {B : Bs}
/-- a class by its name: an own one, or the built-in ValueError -/
def clsN (mg : Str → Option Value) (c : Str) (u : Value) : Prop := (mg c = some u ∧ ∃ C, u = .ref C) ∨ (c = "ValueError" ∧ u = .type "ValueError")
/-- what is known of which class an exception is -/
def IsF (K : PySem.W.Frag) (mg : Str → Option Value) (isub : Str → Str → Option Bool) : Prop := ∀ nm c b cls u, isub nm c = some b → mg nm = some cls → clsN mg c u → ∃ D, cls = .ref D ∧ ExcC K D ∧ PySem.W.kitOne K cls u = some b
def isAny (isub : Str → Str → Option Bool) (nm : Str) : List Str → Option Bool
  | [] => some false
  | c :: r => match isub nm c with
    | some true => some true
    | some false => isAny isub nm r
    | none => none
def aIsX (isub : Str → Str → Option Bool) (cs : List Str) (a : AE') : AE' := fun s C P => a s C fun d C1 => match d with
  | .ce p => (match C1 p with | some (.exc nm) => (match isAny isub nm cs with | some b => P (.bl b) C1 | none => False) | _ => False)
  | _ => False
/-- a class's expression -/
structure AC (X : Cx) (e : Expr) (v : V) (u : Value) (x : Str) : Prop where
  pe : PE X e (tC v)
  cv : ClsV v u
  cn : clsN X.mg x u
inductive ACs (X : Cx) : List Expr → TA → List V → List Value → List Str → Prop
  | nil : ACs X [] tNil [] [] []
  | cons {e : Expr} {es : List Expr} {v : V} {u : Value} {x : Str} {t : TA} {vs : List V} {us : List Value} {xs : List Str} (h : AC X e v u x) (r : ACs X es t vs us xs) (he : starEach (e :: es) X.env = (false, eval e X.env) :: starEach es X.env) :
      ACs X (e :: es) (tCons (tC v) t) (v :: vs) (u :: us) (x :: xs)
section
variable {X : Cx} {es : List Expr} {t : TA} {vs : List V} {us : List Value} {xs : List Str}
theorem ACs.pa (h : ACs X es t vs us xs) : PA X es t := by
  induction h with
  | nil => exact pa_nil
  | cons h r he ih => exact pa_cons h.pe ih he
theorem ACs.run (h : ACs X es t vs us xs) : ∀ {σ : L2.St} {H : Hp} {Q : List V → Hp → Prop}, Q vs H → t σ H Q := by
  induction h with
  | nil => exact fun q => q
  | cons h r he ih => exact fun {σ H Q} q => ih (Q := fun ws H2 => Q (_ :: ws) H2) q
theorem ACs.len (h : ACs X es t vs us xs) : vs.length = es.length := by
  induction h with
  | nil => rfl
  | cons h r he ih => rw [List.length_cons, List.length_cons, ih]
theorem ACs.any (h : ACs X es t vs us xs) {isub : Str → Str → Option Bool} (f : IsF X.K X.mg isub) {nm : Str} {cls : Value} {b : Bool} (hm : X.mg nm = some cls) : isAny isub nm xs = some b → PySem.W.kitAny X.K cls us = some b := by
  induction h with
  | nil => exact fun e => e
  | @cons e es v u x t vs us xs h r he ih =>
    intro e
    unfold isAny at e
    unfold PySem.W.kitAny
    split at e
    · rename_i q
      obtain ⟨D, _, _, k⟩ := f nm x true cls u q hm h.cn
      rw [k]
      exact e
    · rename_i q
      obtain ⟨D, _, _, k⟩ := f nm x false cls u q hm h.cn
      rw [k]
      exact ih e
    · cases e
end
section
variable {C : AH} {P : D → AH → Prop} {s : ASt} {e : AE'}
def kIsX (isub : Str → Str → Option Bool) (cs : List Str) (P : D → AH → Prop) : D → AH → Prop := fun d C1 => match d with
  | .ce p => (match C1 p with | some (.exc nm) => (match isAny isub nm cs with | some b => P (.bl b) C1 | none => False) | _ => False)
  | _ => False
theorem g_isX {isub : Str → Str → Option Bool} {cs : List Str} (h : e s C (kIsX isub cs P)) : aIsX isub cs e s C P := h
end
end AL
namespace AL
open PySem PySem.Spec PyProof.Rows L2
end AL
namespace AL
open PySem L2
end AL
namespace AL
open PySem L2
theorem valD_put (es : List (Key × D)) (k k' : Key) (d : D) : valD (putD es k d) k' = if k' = k then some d else valD es k' := by
  induction es with
  | nil =>
    unfold putD
    rw [if_neg (by simp)]
    by_cases e : k' = k
    · subst e; simp [valD]
    · rw [if_neg e]
      have : ¬ k = k' := fun z => e z.symm
      simp [valD, this]
  | cons x es ih =>
    unfold putD at ih ⊢
    by_cases hx : x.1 = k
    · rw [if_pos (by simp [hx])]
      rw [List.map_cons, if_pos hx]
      by_cases e : k' = k
      · subst e
        rw [if_pos rfl]
        simp [valD, hx]
      · rw [if_neg e]
        have hne : ¬ x.1 = k' := fun z => e (by rw [← z, hx])
        have ih2 : valD (es.map fun kv => if kv.1 = k then (kv.1, d) else kv) k' = valD es k' := by
          by_cases ha : (es.any fun kv => decide (kv.1 = k)) = true
          · rw [if_pos ha, if_neg e] at ih; exact ih
          · have : es.map (fun kv => if kv.1 = k then (kv.1, d) else kv) = es := by
              refine (List.map_congr_left fun kv hkv => ?_).trans (List.map_id es)
              have : ¬ kv.1 = k := fun z => ha (List.any_eq_true.mpr ⟨kv, hkv, decide_eq_true z⟩)
              rw [if_neg this]; rfl
            rw [this]
        simp only [valD, List.find?_cons, decide_eq_false hne] at ih2 ⊢
        exact ih2
    · by_cases ha : (es.any fun kv => decide (kv.1 = k)) = true
      · rw [if_pos ha] at ih
        rw [if_pos (by simp only [List.any_cons, ha, Bool.or_true])]
        rw [List.map_cons, if_neg hx]
        by_cases h2 : x.1 = k'
        · have e : ¬ k' = k := fun z => hx (h2.trans z)
          rw [if_neg e]
          simp [valD, h2]
        · simp only [valD, List.find?_cons, decide_eq_false h2] at ih ⊢
          exact ih
      · rw [if_neg ha] at ih
        rw [if_neg (by simp only [List.any_cons, decide_eq_false hx, Bool.false_or]; exact ha)]
        rw [List.cons_append]
        by_cases h2 : x.1 = k'
        · have e : ¬ k' = k := fun z => hx (h2.trans z)
          rw [if_neg e]
          simp [valD, h2]
        · simp only [valD, List.find?_cons, decide_eq_false h2] at ih ⊢
          exact ih
/-- a dict with numbers from 0 for keys, as what it holds -/
structure Mp (es : List (Key × D)) (L : List Nat) (f : Nat → Option D) : Prop where
  ky : Ky es L
  nd : L.Nodup
  at' : ∀ m, valD es (nk m) = f m
theorem Mp.nil : Mp [] [] fun _ => none := ⟨rfl, List.nodup_nil, fun _ => rfl⟩
theorem Mp.put {es : List (Key × D)} {L : List Nat} {f : Nat → Option D} (h : Mp es L f) (n : Nat) (d : D) : Mp (putD es (nk n) d) (addN L n) fun m => if m = n then some d else f m := by
  refine ⟨h.ky.put n, nodup_addN h.nd, fun m => ?_⟩
  rw [valD_put, h.at']
  by_cases e : m = n
  · subst e; rw [if_pos rfl, if_pos rfl]
  · rw [if_neg e, if_neg (fun z => e (nk_inj z))]
theorem Mp.mem {es : List (Key × D)} {L : List Nat} {f : Nat → Option D} (h : Mp es L f) (n : Nat) : n ∈ L ↔ (f n).isSome = true := by
  rw [← h.at', h.ky.val, decide_eq_true_iff]
section
variable {C : AH} {P : D → AH → Prop} {s : ASt} {q : Addr} {es : List (Key × D)} {o i e : AE'} {nx : ASt → AH → Prop} {rt : D → AH → Prop} {bk ct : ASt → AH → Prop}
def kGetN (x : D) (P : D → AH → Prop) : D → AH → Prop := fun y C2 => match lookD C2 x y with
  | some (some d) => P d C2
  | _ => False
theorem g_getN (h : o s C fun x C1 => i s C1 (kGetN x P)) : aGetN o i s C P := h
def kInN (neg : Bool) (y : D) (P : D → AH → Prop) : D → AH → Prop := fun x C2 => match lookD C2 x y with
  | some r => P (.bl (if neg then !r.isSome else r.isSome)) C2
  | none => False
theorem g_inN {neg : Bool} (h : i s C fun y C1 => o s C1 (kInN neg y P)) : aInN neg i o s C P := h
def kGet1N (i : AE') (s : ASt) (P : D → AH → Prop) : D → AH → Prop := fun x C1 => isDic C1 x = true ∧ i s C1 fun y C2 => match lookD C2 x y with
  | some r => P (r.getD .non) C2
  | none => False
theorem g_get1N (h : o s C (kGet1N i s P)) : aGet1N o i s C P := h
def kPutN (d x : D) (nx : ASt → AH → Prop) (s : ASt) : D → AH → Prop := fun y C3 => match x with
  | .ce p => (match C3 p with
    | some (.dk es) => (match AL.keyOf y with | some k => es.length < sizeLine ∧ nx s (put C3 p (.dk (putD es k d))) | none => False)
    | some (.dn es) => (match keyT y with | some k => es.length < sizeLine ∧ nx s (put C3 p (.dn (putND es k d))) | none => False)
    | _ => False)
  | _ => False
theorem g_putN (h : e s C fun d C1 => o s C1 fun x C2 => i s C2 (kPutN d x nx s)) : aPutN o i e ⟨nx, rt, bk, ct⟩ s C := h
end
end AL
namespace AL
open PySem L2
/-- a dict from numbers to numbers -/
abbrev Mn (es : List (Key × D)) (L : List Nat) (f : Nat → Option Nat) : Prop := Mp es L fun m => (f m).map fun (v : Nat) => D.int (v : Int)
theorem Mn.put {es : List (Key × D)} {L : List Nat} {f : Nat → Option Nat} (h : Mn es L f) (n v : Nat) : Mn (putD es (nk n) (.int (v : Int))) (addN L n) fun m => if m = n then some v else f m := by
  have := Mp.put h n (.int (v : Int))
  refine ⟨this.ky, this.nd, fun m => ?_⟩
  rw [this.at' m]
  by_cases e : m = n
  · simp [e]
  · simp [e]
end AL
namespace AL
open PySem PySem.Spec PyProof.Rows L2
end AL
namespace AL
open PySem PySem.Spec PyProof.Rows L2
end AL
namespace AL
open PySem PySem.Spec PyProof.Rows L2
end AL
namespace AL
open PySem PySem.Spec PyProof.Rows L2
end AL
namespace AL
open PySem PySem.Spec PyProof.Rows L2
end AL
namespace AL
open PySem PySem.Spec PyProof.Rows L2
end AL
namespace AL
open PySem PySem.Spec PyProof.Rows L2
end AL
namespace AL
open PySem PySem.Spec PyProof.Rows L2
open PyProof.Rows (envOfC)
variable {B : Bs}
def putFD (f : Str) (v : D) : List (Str × D) → List (Str × D)
  | [] => [(f, v)]
  | (g, x) :: r => if g = f then (g, v) :: r else (g, x) :: putFD f v r
theorem RepF.put {K : PySem.W.Frag} {F : Hp} {f : Str} {v : V} {d : D} (q : Rep K F v d) : ∀ {fs : List (Str × V)} {es : List (Str × D)}, RepF K F fs es → RepF K F (putF f v fs) (putFD f d es)
  | _, _, .nil => .cons q .nil
  | _, _, .cons (k := k) r t => by
    unfold putF putFD
    by_cases h : k = f
    · rw [if_pos h, if_pos h]; exact .cons q t
    · rw [if_neg h, if_neg h]; exact .cons r (RepF.put q t)
theorem RepF.length {K : PySem.W.Frag} {F : Hp} : ∀ {fs : List (Str × V)} {es : List (Str × D)}, RepF K F fs es → fs.length = es.length
  | _, _, .nil => rfl
  | _, _, .cons _ t => by rw [List.length_cons, List.length_cons, RepF.length t]
/-- o.f -/
def aFld (nm f : Str) (a : AE') : AE' := fun s C P => a s C fun x C1 => match x with
  | .ce p => (match C1 p with | some (.ob n es) => n = nm ∧ (match es.lookup f with | some d => P d C1 | none => False) | _ => False)
  | _ => False
/-- o.f = e -/
def aFldPut (nm f : Str) (o v : AE') : AS' := fun E s C => v s C fun y C1 => o s C1 fun x C2 => match x with
  | .ce p => (match C2 p with | some (.ob n es) => n = nm ∧ es.length < 1000 ∧ E.nx s (put C2 p (.ob nm (putFD f y es))) | _ => False)
  | _ => False
/-- o.m(..) -/
def aMth (nm m : Str) (asp : ASp) (o : AE') (a : AA') : AE' := fun s C P => o s C fun x C1 => match x with
  | .ce p => (match C1 p with | some (.ob n es) => n = nm ∧ es.lookup m = none ∧ a s C1 fun ds C2 => asp (.ce p :: ds) C2 P | _ => False)
  | _ => False
def aMthX (W : AX') (nm m : Str) (asp : ASpX) (o : AE') (a : AA') : AE' := fun s C P => o s C fun x C1 => match x with
  | .ce p => (match C1 p with | some (.ob n es) => n = nm ∧ es.lookup m = none ∧ a s C1 fun ds C2 => asp (.ce p :: ds) C2 P (W s) | _ => False)
  | _ => False
/-- C(..) -/
def aMake (nm : Str) (asp : ASp) (a : AA') : AE' := fun s C P => a s C fun ds C1 => ∀ p, C1 p = none → asp (.ce p :: ds) (put C1 p (.ob nm [])) fun v C2 => v = .non ∧ P (.ce p) C2
def aSetd (o i e : AE') : AE' := fun s C P => o s C fun x C1 => (asK C1 x).isSome = true ∧ i s C1 fun y C2 => e s C2 fun z C3 => match x, keyOf y with
  | .ce p, some k => (match C3 p with | some (.dk es) => es.length < sizeLine ∧ (match valD es k with | some d => P d C3 | none => P z (put C3 p (.dk (putD es k z)))) | _ => False)
  | _, _ => False
end AL
namespace AL
open PySem L2
section
variable {C : AH} {P : D → AH → Prop} {s : ASt} {q : Addr} {es : List (Str × D)} {o v a i e : AE'} {as : AA'} {asp : ASp} {nm f m : Str} {nx : ASt → AH → Prop} {rt : D → AH → Prop} {bk ct : ASt → AH → Prop}
def kFld (nm f : Str) (P : D → AH → Prop) : D → AH → Prop := fun x C1 => match x with
  | .ce p => (match C1 p with | some (.ob n es) => n = nm ∧ (match es.lookup f with | some d => P d C1 | none => False) | _ => False)
  | _ => False
theorem g_fld (h : a s C (kFld nm f P)) : aFld nm f a s C P := h
def kFldPut (nm f : Str) (y : D) (nx : ASt → AH → Prop) (s : ASt) : D → AH → Prop := fun x C2 => match x with
  | .ce p => (match C2 p with | some (.ob n es) => n = nm ∧ es.length < 1000 ∧ nx s (put C2 p (.ob nm (putFD f y es))) | _ => False)
  | _ => False
theorem g_fldPut (h : v s C fun y C1 => o s C1 (kFldPut nm f y nx s)) : aFldPut nm f o v ⟨nx, rt, bk, ct⟩ s C := h
def kMth (nm m : Str) (asp : ASp) (as : AA') (s : ASt) (P : D → AH → Prop) : D → AH → Prop := fun x C1 => match x with
  | .ce p => (match C1 p with | some (.ob n es) => n = nm ∧ es.lookup m = none ∧ as s C1 fun ds C2 => asp (.ce p :: ds) C2 P | _ => False)
  | _ => False
theorem g_mth (h : o s C (kMth nm m asp as s P)) : aMth nm m asp o as s C P := h
def kMthX (W : AX') (nm m : Str) (asp : ASpX) (as : AA') (s : ASt) (P : D → AH → Prop) : D → AH → Prop := fun x C1 => match x with
  | .ce p => (match C1 p with | some (.ob n es) => n = nm ∧ es.lookup m = none ∧ as s C1 fun ds C2 => asp (.ce p :: ds) C2 P (W s) | _ => False)
  | _ => False
theorem g_mthX {W : AX'} {asp : ASpX} (h : o s C (kMthX W nm m asp as s P)) : aMthX W nm m asp o as s C P := h
theorem g_make (h : as s C fun ds C1 => ∀ p, C1 p = none → asp (.ce p :: ds) (put C1 p (.ob nm [])) fun v C2 => v = .non ∧ P (.ce p) C2) : aMake nm asp as s C P := h
def kSetd2 (x y : D) (P : D → AH → Prop) : D → AH → Prop := fun z C3 => match x, AL.keyOf y with
  | .ce p, some k => (match C3 p with | some (.dk es) => es.length < sizeLine ∧ (match valD es k with | some d => P d C3 | none => P z (put C3 p (.dk (putD es k z)))) | _ => False)
  | _, _ => False
def kSetd (i e : AE') (s : ASt) (P : D → AH → Prop) : D → AH → Prop := fun x C1 => (asK C1 x).isSome = true ∧ i s C1 fun y C2 => e s C2 (kSetd2 x y P)
theorem g_setd (h : o s C (kSetd i e s P)) : aSetd o i e s C P := h
end
end AL
namespace AL
open PySem PySem.Spec PyProof.Rows L2
end AL
namespace AL
open PySem PySem.Spec PyProof.Rows L2
variable {B : Bs}
def aChain3 (r r' r'' : D → D → AH → (D → AH → Prop) → Prop) (a b c d : AE') : AE' := fun s C P => a s C fun x C1 => b s C1 fun y C2 => r x y C2 fun z C3 => match z with
  | .bl true => c s C3 fun w C4 => r' y w C4 fun z2 C5 => (match z2 with
    | .bl true => d s C5 fun v C6 => r'' w v C6 P
    | .bl false => P (.bl false) C5
    | _ => False)
  | .bl false => P (.bl false) C3
  | _ => False
section
variable {C : AH} {P : D → AH → Prop} {s : ASt} {a b c d : AE'} {r r' r'' : D → D → AH → (D → AH → Prop) → Prop}
def kChain3 (r' r'' : D → D → AH → (D → AH → Prop) → Prop) (c d : AE') (y : D) (s : ASt) (P : D → AH → Prop) : D → AH → Prop := fun z C3 => match z with
  | .bl true => c s C3 fun w C4 => r' y w C4 (kChain r'' d w s P)
  | .bl false => P (.bl false) C3
  | _ => False
theorem g_chain3 (h : a s C fun x C1 => b s C1 fun y C2 => r x y C2 (kChain3 r' r'' c d y s P)) : aChain3 r r' r'' a b c d s C P := h
end
end AL
namespace AL
open PySem PySem.Spec PyProof.Rows L2
open PyProof.Rows (envOfC)
end AL
namespace AL
open PySem PySem.Spec PyProof.Rows L2
end AL
namespace AL
open PySem PySem.Spec PyProof.Rows L2
variable {B : Bs}
def tyT (x : V) (H : Hp) : Prop := ∃ (p : Addr) (o : Obj) (xs : List V), x = .ref p ∧ o.dict = none ∧ H p = some (.frz o (.tup xs))
theorem tyT_is {X : Cx} {pins : List (Addr × Obj)} {σ : L2.St} {H : Hp} {s : Shared} {x : V} {v : Value} (I : Inv X pins σ H s) (r : RelV x v) (ty : tyT x H) :
    s.TypeIs v "tuple" ∧ ∀ a, v = .ref a → ∃ ob, s.heap.get? a = some ob ∧ ob.dict = none := by
  obtain ⟨p, o, xs, rfl, hd, e⟩ := ty
  cases r
  obtain ⟨h1, _, its, _, o2, g1, g2, _⟩ := (show ObjOk X.prog X.w H s.heap p (.frz o (.tup xs)) from I.hok p _ e)
  refine ⟨⟨o2, g1, g2⟩, fun a e2 => ?_⟩
  cases e2
  exact ⟨o, h1, hd⟩
def tBMT (r : V → List V → Hp → VK → Prop) (to : TE) (t : TA) : TE := fun σ H Q => to σ H fun x H1 => tyT x H1 ∧ t σ H1 fun xs H2 => r x xs H2 Q
section
variable {X : Cx} {o e : Expr} {es : List Expr} {to : TE} {t : TA} {name : Str} {apos cpos : Pos} {id : String} {r : V → List V → Hp → VK → Prop}
theorem pe_bmT (pa : PlainAttrs "tuple") (slot : Slot "tuple" name id) (hty : typeOf (.builtin id) = pure (.type "method_descriptor")) (hm : MtR X id r) (ho : PE X o to) (ha : PA X (e :: es) t)
    (hbase : attributeBase o name X.env (eval o X.env) = eval o X.env := by rfl)
    (hfew : ((backTo cpos (starEach (e :: es) X.env)).all (fun x => !x.1) && (backToKw cpos (keywordEach [] X.env)).all (fun x => x.1.isSome)
      && decide ((e :: es).length + ([] : List Keyword).length + (if ([] : List Keyword).isEmpty then 0 else 1) < 30)) = true := by rfl)
    (hline : (apos.endLine == cpos.line) = true := by rfl) (hs : starEach (e :: es) X.env = (false, eval e X.env) :: starEach es X.env := by rfl) (hplain : (backTo cpos (starEach es X.env)).any (·.1) = false := by rfl) :
    PE X (.Call (.Attribute o name apos) (e :: es) [] cpos) (tBMT r to t) := by
  refine ⟨fun pins s σ H Q I h => ?_⟩
  refine wpAny_Call_method_late hbase hfew hline rfl (thn (ho.run pins s σ H _ I h) fun v s1 h1 => ?_)
  obtain ⟨x, H1, I1, r1, ty, q1⟩ := h1
  obtain ⟨a1, a2⟩ := tyT_is I1 r1 ty
  have hA := ha.run cpos pins s1 σ H1 _ I1 q1
  refine ⟨"tuple", id, pa, slot, hty, a1, a2, ?_⟩
  rw [hs] at hA ⊢
  have hp2 : (false || (backTo cpos (starEach es X.env)).any (·.1)) = false := by rw [hplain] <;> rfl
  refine Calls.callWith_builtin hp2 (Calls.evalArgs_plain (thn hA fun us s2 h2 => ?_))
  obtain ⟨vs, H2, I2, r2, q2⟩ := h2
  exact hm pins s2 σ H2 x vs v us Q I2 r1 r2 q2
end
def isTupM : D → Bool
  | .tup ds => !wkP ds
  | _ => false
theorem isTupM_ok {K : PySem.W.Frag} {F : Hp} {C : AH} {R H : Hp} {v : V} {d : D} (hS : Sat B K F C R H) (r : Rep K F v d) (h : isTupM d = true) : tyT v H := by
  cases r with
  | tup g1 g2 =>
    obtain ⟨o, h1, h2⟩ := g1.2 (by simpa [isTupM] using h)
    exact ⟨_, o, _, rfl, h1, hS.ex _ _ h2⟩
  | _ => cases h
def aMethT (m : D → ASp) (o : AE') (a : AA') : AE' := fun s C P => o s C fun x C1 => isTupM x = true ∧ a s C1 fun ds C2 => m x ds C2 P
section
variable {X : Cx} {K : PySem.W.Frag} {o e : Expr} {es : List Expr} {n : Nat} {to : TE} {t : TA} {ao : AE'} {a : AA'} {id : String} {name : Str} {r : V → List V → Hp → VK → Prop} {ar : D → ASp} {apos cpos : Pos}
theorem ae_methT (pa : PlainAttrs "tuple") (slot : Slot "tuple" name id) (hty : typeOf (.builtin id) = pure (.type "method_descriptor")) (hm : AMt B X id r ar) (ho : AE B X o to ao) (ha : AA B X (e :: es) n t a)
    (hbase : attributeBase o name X.env (eval o X.env) = eval o X.env := by rfl)
    (hfew : ((backTo cpos (starEach (e :: es) X.env)).all (fun x => !x.1) && (backToKw cpos (keywordEach [] X.env)).all (fun x => x.1.isSome)
      && decide ((e :: es).length + ([] : List Keyword).length + (if ([] : List Keyword).isEmpty then 0 else 1) < 30)) = true := by rfl)
    (hline : (apos.endLine == cpos.line) = true := by rfl) (hs : starEach (e :: es) X.env = (false, eval e X.env) :: starEach es X.env := by rfl) (hplain : (backTo cpos (starEach es X.env)).any (·.1) = false := by rfl) (hK : X.K = K := by rfl) :
    AE B X (.Call (.Attribute o name apos) (e :: es) [] cpos) (tBMT r to t) (aMethT ar ao a) := by
  subst hK
  exact ⟨pe_bmT pa slot hty hm.op ho.pe ha.pa hbase hfew hline hs hplain, by
  intro σ s F C R H Q P hs hS h0 k
  refine ho.sim σ s F C R H _ _ hs hS h0 fun x v F1 C1 H1 e1 S1 r1 h1 => ⟨isTupM_ok S1 r1 h1.1, ?_⟩
  refine ha.sim σ s F1 C1 R H1 _ _ (hs.mono e1) S1 h1.2 fun ds vs F2 C2 H2 e2 S2 r2 hl h2 => ?_
  exact hm.sim v x vs ds F2 C2 R H2 Q P S2 (r1.mono e2) r2 h2 fun d u F3 C3 H3 e3 S3 r3 h3 => k d u F3 C3 H3 ((e1.trans e2).trans e3) S3 r3 h3⟩
end
section
variable {C : AH} {P : D → AH → Prop} {s : ASt} {e : AE'} {aa : AA'}
theorem g_methT {m : D → ASp} (h : e s C fun x C1 => isTupM x = true ∧ aa s C1 fun ds C2 => m x ds C2 P) : aMethT m e aa s C P := h
theorem isTupM_map (ys : List Str) : isTupM (.tup (ys.map D.str)) = true := by
  cases ys with
  | nil => rfl
  | cons y l => rfl
theorem g_tyT {ys : List Str} {A : Prop} (h : A) : isTupM (.tup (ys.map D.str)) = true ∧ A := ⟨isTupM_map ys, h⟩
end
end AL
local macro_rules | `(tactic| walk_at "ne") => `(tactic| first | with_reducible assumption | ((with_reducible refine Ne.symm ?_); (with_reducible assumption)))
local macro_rules | `(tactic| walk_at "look") => `(tactic| first
  | with_reducible assumption
  | with_reducible exact AL.put_same
  | ((with_reducible apply AL.put_other); (walk_at "ne"); (walk_at "look"))
  | ((with_reducible apply AL.del_other); (walk_at "ne"); (walk_at "look")))
local macro_rules | `(tactic| walk_at "mul") => `(tactic| first | exact Or.inr ⟨by omega, by omega⟩ | exact Or.inl ⟨by omega, by omega⟩)
local macro_rules | `(tactic| walk_at "go1") => `(tactic| first
  | with_reducible apply AL.g_seq
  | with_reducible apply AL.g_asg
  | with_reducible apply AL.g_op
  | with_reducible apply AL.g_un
  | ((with_reducible apply AL.g_var); exact rfl)
  | with_reducible apply AL.g_c
  | ((with_reducible apply AL.g_gname'); (simp only [AL.wipeA, List.foldl_cons, List.foldl_nil, List.set_cons_zero, List.set_cons_succ]; exact rfl))
  | with_reducible apply AL.g_call
  | with_reducible apply AL.g_cons
  | with_reducible apply AL.g_nil
  | with_reducible apply AL.g_addI
  | with_reducible apply AL.g_sub
  | ((with_reducible apply AL.g_mul); (walk_at "mul"))
  | ((with_reducible apply AL.g_mod); (omega))
  | ((with_reducible apply AL.g_div); (exact ⟨by omega, by omega⟩))
  | ((with_reducible apply AL.g_pow); (exact ⟨by decide, by decide, by decide⟩))
  | with_reducible apply AL.g_lt
  | with_reducible apply AL.g_le
  | with_reducible apply AL.g_gt
  | with_reducible apply AL.g_ge
  | with_reducible apply AL.g_eqII
  | with_reducible apply AL.g_neII
  | with_reducible apply AL.g_eqBB
  | with_reducible apply AL.g_neBB
  | with_reducible apply AL.g_eqTT
  | with_reducible apply AL.g_neTT
  | with_reducible apply AL.g_is
  | with_reducible apply AL.g_isnot
  | with_reducible apply AL.g_B
  | with_reducible apply AL.g_kB
  | with_reducible apply AL.g_tru
  | with_reducible apply AL.g_kTruB
  | with_reducible apply AL.g_and
  | with_reducible apply AL.g_or
  | with_reducible apply AL.g_not
  | with_reducible apply AL.g_andV
  | with_reducible apply AL.g_orV
  | with_reducible apply AL.g_notV
  | with_reducible apply AL.g_kNot
  | with_reducible apply AL.g_if
  | with_reducible apply AL.g_ixL0
  | with_reducible apply AL.g_ixL1
  | with_reducible apply AL.g_ixL2
  | with_reducible apply AL.g_ixT0
  | with_reducible apply AL.g_ixT1
  | with_reducible apply AL.g_ixT2
  | with_reducible apply AL.g_ixT3
  | ((with_reducible apply AL.g_ixC); (walk_at "look"))
  | with_reducible apply AL.g_lenL
  | with_reducible apply AL.g_lenT
  | with_reducible apply AL.g_lenR
  | ((with_reducible apply AL.g_lenC); (walk_at "look"))
  | with_reducible apply AL.g_abs
  | with_reducible apply AL.g_max2
  | with_reducible apply AL.g_min2
  | with_reducible apply AL.g_intI
  | with_reducible apply AL.g_intB
  | with_reducible apply AL.g_listL
  | with_reducible apply AL.g_listT
  | with_reducible apply AL.g_tupleL
  | with_reducible apply AL.g_tupleT
  | with_reducible apply AL.g_rev
  | with_reducible apply AL.g_ret
  | with_reducible apply AL.g_drop
  | with_reducible apply AL.g_next
  | with_reducible apply AL.g_retN
  | with_reducible apply AL.g_tup
  | with_reducible apply AL.g_lst
  | with_reducible apply AL.g_lstM
  | with_reducible apply AL.g_isi
  | with_reducible apply AL.g_kIsiI
  | with_reducible apply AL.g_kIsiB
  | with_reducible apply AL.g_kIsiN
  | with_reducible apply AL.g_kIsiS
  | with_reducible apply AL.g_kIsiL
  | with_reducible apply AL.g_kIsiT
  | with_reducible apply AL.g_kIsiK
  | with_reducible apply AL.g_meth
  | with_reducible apply AL.g_methT
  | with_reducible apply AL.g_tyT
  | with_reducible apply AL.g_meth0
  | ((with_reducible apply AL.g_gsetV); exact rfl)
  | ((with_reducible apply AL.g_kSet); (walk_at "look"); exact rfl)
  | ((with_reducible apply AL.g_frzL); exact rfl; (walk_at "look"))
  | ((with_reducible apply AL.g_gtup); exact rfl)
  | with_reducible apply AL.g_gcons
  | with_reducible apply AL.g_gnil
  | with_reducible apply AL.g_yes
  | with_reducible apply AL.g_sl
  | with_reducible apply AL.g_noPart
  | with_reducible apply AL.g_part
  | with_reducible apply AL.g_kPart
  | ((with_reducible apply AL.g_pen0); exact rfl; (walk_at "look"))
  | ((with_reducible apply AL.g_pen1); exact rfl; (walk_at "look"))
  | ((with_reducible apply AL.g_pen2); exact rfl; (walk_at "look"))
  | with_reducible apply AL.g_putK
  | ((with_reducible apply AL.g_kPut1); exact rfl; (walk_at "look"))
  | ((with_reducible apply AL.g_kPut2); exact rfl; (walk_at "look"))
  | with_reducible apply AL.g_par
  | ((with_reducible apply AL.g_kPar); (simp only [List.set_cons_zero, List.set_cons_succ]; exact rfl))
  | with_reducible apply AL.g_neg
  | with_reducible apply AL.g_chain
  | with_reducible apply AL.g_chain3
  | with_reducible apply AL.g_lenSet
  | with_reducible apply AL.g_inTab
  | with_reducible apply AL.g_kInTab
  | with_reducible apply AL.g_kNotInTab
  | with_reducible apply AL.g_ixTab
  | with_reducible apply AL.g_eqNil
  | with_reducible apply AL.g_neNil
  | with_reducible apply AL.g_iteT
  | with_reducible apply AL.g_iteF
  | with_reducible apply AL.g_iteNT
  | with_reducible apply AL.g_iteNF
  | with_reducible apply AL.g_for
  | with_reducible apply AL.g_il
  | with_reducible apply AL.g_it
  | with_reducible apply AL.g_is'
  | with_reducible apply AL.g_ir1
  | with_reducible apply AL.g_ir2
  | with_reducible apply AL.g_ie
  | with_reducible apply AL.g_iz
  | with_reducible apply AL.g_kILl
  | with_reducible apply AL.g_kILr
  | with_reducible apply AL.g_kIT
  | with_reducible apply AL.g_kIS
  | with_reducible apply AL.g_kIE
  | with_reducible apply AL.g_kIZ
  | ((with_reducible apply AL.g_kIR1); (omega); (omega))
  | ((with_reducible apply AL.g_kIR2); (omega))
  | with_reducible apply AL.g_lc
  | with_reducible apply AL.g_lcM
  | ((with_reducible apply AL.g_bodyX); (simp only [List.map_cons, List.map_nil, List.length_cons, List.length_nil, List.cons_append, List.nil_append, List.reduceReplicate, Nat.reduceAdd, Nat.reduceSub]; exact rfl))
  | with_reducible apply AL.g_callX
  | with_reducible apply AL.g_raise
  | with_reducible apply AL.g_try
  | with_reducible apply AL.g_tryA
  | with_reducible apply AL.g_isX
  | with_reducible apply AL.g_get1
  | with_reducible apply AL.g_get2
  | with_reducible apply AL.g_getN
  | with_reducible apply AL.g_inN
  | with_reducible apply AL.g_get1N
  | with_reducible apply AL.g_putN
  | with_reducible apply AL.g_fld
  | with_reducible apply AL.g_fldPut
  | with_reducible apply AL.g_mth
  | with_reducible apply AL.g_mthX
  | with_reducible apply AL.g_make
  | with_reducible apply AL.g_setd
  | with_reducible apply AL.g_dispV
  | with_reducible apply AL.g_kDispVI
  | ((with_reducible apply AL.g_body'); (simp only [List.map_cons, List.map_nil, List.length_cons, List.length_nil, List.cons_append, List.nil_append, List.reduceReplicate, Nat.reduceAdd, Nat.reduceSub]; exact rfl))
  | ((with_reducible apply AL.g_sz); (simp only [List.length_cons, List.length_nil, PySem.sizeLine]; try omega))
  | ((with_reducible apply AL.g_ty); first | exact rfl | exact AL.isTy_ce (by walk_at "look") rfl))
local macro_rules | `(tactic| walk_at "go") => `(tactic| repeat walk_at "go1")
namespace A_k43
open PySem AL
def a_signs_of : AS' :=
  aRet (aMeth "str" aJoin (aC (.str "")) (aCons (aVar 0) (aNil)))
def s_signs_of : ASp := aBody 1 a_signs_of
def a_begins_another : AS' :=
  aSeq (aFor (aIEG (aCons (aVar 0) (aNil))) (aGTup 2 (aGCons (aGName 1) (aGCons (aGName 2) (aGNil))))
  (aFor (aIEG (aCons (aVar 0) (aNil))) (aGTup 2 (aGCons (aGName 3) (aGCons (aGName 4) (aGNil))))
  (aIfS (aAnd (aB (aOp aNe (aVar 1) (aVar 3))) (aTru (aMeth "str" aStartswith (aVar 4) (aCons (aVar 2) (aNil)))))
  (aRet (aC (.bl true)))
  (aNext))))
  (aRet (aC (.bl false)))
def s_begins_another : ASp := aBody 5 a_begins_another
def a_law_pen : AS' :=
  aSeq (aAsg (aOp aAdd (aOp aMul (aC (.int 6151)) (aVar 1)) (aC (.int 3))) (aGName 2))
  (aSeq (aIfS (aB (aOp aLt (aVar 1) (aCall aLen (aCons (aVar 0) (aNil)))))
  (aAsg (aOp aIx (aVar 0) (aVar 1)) (aGName 2))
  (aIfS (aB (aOp aGt (aCall aLen (aCons (aVar 0) (aNil))) (aC (.int 0))))
  (aAsg (aOp aAdd (aOp aMod (aOp aIx (aVar 0) (aOp aMod (aVar 1) (aCall aLen (aCons (aVar 0) (aNil))))) (aC (.int 2147483629))) (aOp aMul (aC (.int 40503)) (aVar 1))) (aGName 2))
  (aNext)))
  (aSeq (aIfS (aB (aOp aGe (aVar 2) (aOp aPow (aC (.int 10)) (aC (.int 18)))))
  (aRet (aLstM (aCons (aOp aSub (aVar 2) (aOp aPow (aC (.int 10)) (aC (.int 18)))) (aCons (aOp aMod (aVar 2) (aC (.int 2147483587))) (aCons (aC (.int 0)) (aNil))))))
  (aNext))
  (aRet (aLstM (aCons (aC (.int 0)) (aCons (aOp aMod (aVar 2) (aC (.int 2147483587))) (aCons (aC (.int 0)) (aNil))))))))
def s_law_pen : ASp := aBody 3 a_law_pen
def a_law_draw : AS' :=
  aSeq (aAsg (aOp aAdd (aOp aIx (aVar 0) (aC (.int 2))) (aC (.int 1))) (aGSet (aVar 0) (aC (.int 2))))
  (aSeq (aIfS (aB (aOp aGt (aOp aIx (aVar 0) (aC (.int 0))) (aC (.int 0))))
  (aSeq (aAsg (aOp aMod (aOp aIx (aVar 0) (aC (.int 0))) (aVar 1)) (aGName 2))
  (aSeq (aAsg (aOp aDiv (aOp aIx (aVar 0) (aC (.int 0))) (aVar 1)) (aGSet (aVar 0) (aC (.int 0))))
  (aRet (aVar 2))))
  (aNext))
  (aSeq (aAsg (aOp aMod (aOp aAdd (aOp aAdd (aOp aIx (aVar 0) (aC (.int 1))) (aOp aMul (aC (.int 69621)) (aOp aIx (aVar 0) (aC (.int 2))))) (aC (.int 13))) (aC (.int 2147483629))) (aGName 3))
  (aSeq (aAsg (aOp aAdd (aOp aMod (aOp aMul (aVar 3) (aVar 3)) (aC (.int 2147483587))) (aOp aMul (aC (.int 6151)) (aOp aIx (aVar 0) (aC (.int 2))))) (aGName 3))
  (aSeq (aAsg (aOp aMod (aOp aMul (aVar 3) (aVar 3)) (aC (.int 2147483629))) (aGName 3))
  (aRet (aOp aMod (aOp aDiv (aVar 3) (aC (.int 64))) (aVar 1)))))))
def s_law_draw : ASp := aBody 4 a_law_draw
def a_law_is_part : AS' :=
  aSeq (aIfS (aOr (aNot (aTru (aIsi "tuple" (aVar 1)))) (aB (aOp aGt (aCall aLen (aCons (aVar 1) (aNil))) (aC (.int 12)))))
  (aRet (aC (.bl false)))
  (aNext))
  (aSeq (aAsg (aMeth "str" aJoin (aC (.str "")) (aCons (aVar 0) (aNil))) (aGName 3))
  (aSeq (aFor (aIT (aVar 1)) (aGName 4)
  (aSeq (aIfS (aOr (aNot (aTru (aIsi "str" (aVar 4)))) (aOr (aNot (aB (aChain aLe aLe (aC (.int 1)) (aCall aLen (aCons (aVar 4) (aNil))) (aC (.int 6))))) (aB (aOp aGt (aMethT aCountT (aVar 1) (aCons (aVar 4) (aNil))) (aC (.int 1))))))
  (aRet (aC (.bl false)))
  (aNext))
  (aIfS (aB (aOp (aEqNil true) (aLc (aIS (aVar 4)) (aGName 7) (aB (aOp aNinS (aVar 7) (aVar 3))) (aVar 7) [7]) (aLst (aNil))))
  (aRet (aC (.bl false)))
  (aNext))))
  (aSeq (aIfS (aTru (aVar 2))
  (aRet (aC (.bl true)))
  (aNext))
  (aSeq (aFor (aIEG (aCons (aVar 1) (aNil))) (aGTup 2 (aGCons (aGName 5) (aGCons (aGName 6) (aGNil))))
  (aIfS (aB (aOp (aEqNil true) (aLc (aIEG (aCons (aVar 1) (aNil))) (aGTup 2 (aGCons (aGName 8) (aGCons (aGName 4) (aGNil)))) (aAnd (aB (aOp aNe (aVar 8) (aVar 5))) (aB (aOp aEq (aSl aCut (aVar 4) aNoPart (aPart (aCall aLen (aCons (aVar 6) (aNil))))) (aVar 6)))) (aVar 4) [8, 4]) (aLst (aNil))))
  (aRet (aC (.bl false)))
  (aNext)))
  (aRet (aC (.bl true)))))))
def s_law_is_part : ASp := aBody 9 a_law_is_part
def a_has_signs : AS' :=
  aSeq (aAsg (aCall s_signs_of (aCons (aVar 0) (aNil))) (aGName 2))
  (aRet (aCall aAll (aCons (aLc (aIS (aVar 1)) (aGName 3) (aYes) (aOp aInS (aVar 3) (aVar 2)) [3]) (aNil))))
def s_has_signs : ASp := aBody 4 a_has_signs
def a_law_tongue : AS' :=
  aSeq (aAsg (aC (.str "!\"#$&'()*+,-./0123456789:;<=>?@ABCDEFGHIJKLMNOPQRSTUVWXYZ[\\]^_`abcdefghijklmnopqrstuvwxyz{|}~")) (aGName 2))
  (aSeq (aAsg (aOp aAdd (aC (.int 1)) (aCall s_law_draw (aCons (aVar 0) (aCons (aC (.int 4)) (aNil))))) (aGName 3))
  (aSeq (aAsg (aLcM (aIR1 (aCons (aVar 3) (aNil))) (aGName 4) (aYes) (aOp aAdd (aC (.int 1)) (aCall s_law_draw (aCons (aVar 0) (aCons (aVar 1) (aNil))))) [4]) (aGName 5))
  (aSeq (aIfS (aAnd (aB (aOp aEq (aVar 1) (aC (.int 6)))) (aB (aOp aEq (aCall s_law_draw (aCons (aVar 0) (aCons (aC (.int 6)) (aNil)))) (aC (.int 0)))))
  (aAsg (aOp aIx (aLst (aCons (aLst (aCons (aC (.int 6)) (aCons (aC (.int 6)) (aNil)))) (aCons (aLst (aCons (aC (.int 4)) (aCons (aC (.int 4)) (aCons (aC (.int 4)) (aNil))))) (aCons (aLst (aCons (aC (.int 3)) (aCons (aC (.int 3)) (aCons (aC (.int 3)) (aCons (aC (.int 3)) (aNil)))))) (aCons (aLst (aCons (aC (.int 6)) (aCons (aC (.int 1)) (aCons (aC (.int 5)) (aNil))))) (aNil)))))) (aCall s_law_draw (aCons (aVar 0) (aCons (aC (.int 4)) (aNil))))) (aGName 5))
  (aNext))
  (aSeq (aWhile (aB (aOp aGt (aCall aSum (aCons (aVar 5) (aNil))) (aC (.int 12))))
  (aAsg (aOp aSub (aCall aMaxL (aCons (aVar 5) (aNil))) (aC (.int 1))) (aGSet (aVar 5) (aMeth "list" aLindex (aVar 5) (aCons (aCall aMaxL (aCons (aVar 5) (aNil))) (aNil))))))
  (aFrzO 5 (aSeq (aAsg (aLstM (aNil)) (aGName 6))
  (aSeq (aFor (aIL (aVar 5)) (aGName 7)
  (aSeq (aAsg (aC (.str "")) (aGName 8))
  (aSeq (aFor (aIR1 (aCons (aVar 7) (aNil))) (aGName 4)
  (aSeq (aAsg (aCall s_law_draw (aCons (aVar 0) (aCons (aCall aLen (aCons (aVar 2) (aNil))) (aNil)))) (aGName 9))
  (aSeq (aAsg (aOp aAdd (aVar 8) (aOp aIx (aVar 2) (aVar 9))) (aGName 8))
  (aAsg (aOp aAdd (aSl aCut (aVar 2) aNoPart (aPart (aVar 9))) (aSl aCut (aVar 2) (aPart (aOp aAdd (aVar 9) (aC (.int 1)))) aNoPart)) (aGName 2)))))
  (aDrop (aMeth "list" aAppend (aVar 6) (aCons (aVar 8) (aNil)))))))
  (aFrz 6 (aRet (aCall aTupleOf (aCons (aVar 6) (aNil))))))))))))
def s_law_tongue : ASp := aBody 10 a_law_tongue
def a_law_text : AS' :=
  aSeq (aAsg (aMeth "str" aJoin (aC (.str "")) (aCons (aVar 1) (aNil))) (aGName 3))
  (aSeq (aAsg (aOp aIx (aVar 3) (aCall s_law_draw (aCons (aVar 0) (aCons (aCall aLen (aCons (aVar 3) (aNil))) (aNil))))) (aGName 4))
  (aSeq (aAsg (aOp aEq (aCall s_law_draw (aCons (aVar 0) (aCons (aC (.int 3)) (aNil)))) (aC (.int 0))) (aGName 5))
  (aSeq (aFor (aIR1 (aCons (aCall s_law_draw (aCons (aVar 0) (aCons (aVar 2) (aNil)))) (aNil))) (aGName 6)
  (aSeq (aAsg (aOp aIx (aVar 3) (aCall s_law_draw (aCons (aVar 0) (aCons (aCall aLen (aCons (aVar 3) (aNil))) (aNil))))) (aGName 7))
  (aSeq (aIfS (aTru (aVar 5))
  (aAsg (aOp aIx (aVar 4) (aC (.int 0))) (aGName 7))
  (aNext))
  (aAsg (aOp aAdd (aVar 4) (aVar 7)) (aGName 4)))))
  (aRet (aVar 4)))))
def s_law_text : ASp := aBody 8 a_law_text
def a_law_is_step : AS' :=
  aSeq (aIfS (aOr (aNot (aTru (aIsi "tuple" (aVar 1)))) (aNot (aB (aChain aLe aLe (aC (.int 1)) (aCall aLen (aCons (aVar 1) (aNil))) (aC (.int 5))))))
  (aRet (aC (.bl false)))
  (aNext))
  (aSeq (aFor (aIEG (aCons (aVar 1) (aNil))) (aGTup 2 (aGCons (aGName 2) (aGCons (aGName 3) (aGNil))))
  (aIfS (aNot (aTru (aCall s_law_is_part (aCons (aVar 0) (aCons (aVar 3) (aCons (aOp aEq (aVar 2) (aOp aSub (aCall aLen (aCons (aVar 1) (aNil))) (aC (.int 1)))) (aNil)))))))
  (aRet (aC (.bl false)))
  (aNext)))
  (aRet (aC (.bl true))))
def s_law_is_step : ASp := aBody 4 a_law_is_step
def a_law_words : AS' :=
  aSeq (aAsg (aOp aIx (aVar 2) (aC (.int 0))) (aGName 3))
  (aSeq (aAsg (aOp aIx (aLc (aIS (aC (.str "azb0c1d2e3f4!"))) (aGName 6) (aB (aOp aNinS (aVar 6) (aMeth "str" aJoin (aC (.str "")) (aCons (aVar 1) (aNil))))) (aVar 6) [6]) (aC (.int 0))) (aGName 4))
  (aSeq (aAsg (aLst (aCons (aTup (aCons (aOp aMulS (aVar 3) (aC (.int 7))) (aNil))) (aCons (aTup (aCons (aC (.str "")) (aNil))) (aCons (aTup (aCons (aVar 2) (aNil))) (aCons (aTup (aCons (aVar 4) (aNil))) (aCons (aTup (aCons (aOp aAdd (aVar 2) (aVar 3)) (aNil))) (aCons (aTup (aCons (aSl aCut (aVar 2) aNoPart (aPart (aC (.int 1)))) (aNil))) (aCons (aTup (aCons (aC .non) (aNil))) (aCons (aTup (aCons (aC (.int 7)) (aNil))) (aCons (aTup (aCons (aC (.bl true)) (aNil))) (aNil))))))))))) (aGName 5))
  (aSeq (aAsg (aOp aAdd (aVar 5) (aLst (aCons (aTup (aCons (aTup (aCons (aVar 2) (aNil))) (aNil))) (aCons (aTup (aCons (aLst (aCons (aVar 2) (aNil))) (aNil))) (aCons (aTup (aCons (aOp aAdd (aSl aCut (aVar 2) aNoPart (aPart (aC (.int 5)))) (aVar 4)) (aNil))) (aCons (aTup (aCons (aOp aMulS (aVar 3) (aC (.int 6))) (aNil))) (aCons (aTup (aCons (aOp aAdd (aVar 2) (aC (.str "\n"))) (aNil))) (aCons (aTup (aCons (aSl aCut (aVar 2) aNoPart (aPart (aC (.int 3)))) (aCons (aSl aCut (aVar 2) aNoPart (aPart (aC (.int 2)))) (aNil)))) (aNil))))))))) (aGName 5))
  (aRet (aOp aIx (aVar 5) (aCall s_law_draw (aCons (aVar 0) (aCons (aCall aLen (aCons (aVar 5) (aNil))) (aNil)))))))))
def s_law_words : ASp := aBody 7 a_law_words
def a_is_word : AS' :=
  aRet (aAndV (aIsi "str" (aVar 1)) (aAndV (aOp aLe (aCall aLen (aCons (aVar 1) (aNil))) (aC (.int 60))) (aCall s_has_signs (aCons (aVar 0) (aCons (aVar 1) (aNil))))))
def s_is_word : ASp := aBody 2 a_is_word
def a_law_part : AS' :=
  aSeq (aAsg (aLstM (aNil)) (aGName 5))
  (aSeq (aFor (aIR1 (aCons (aVar 2) (aNil))) (aGName 6)
  (aSeq (aAsg (aCall s_law_text (aCons (aVar 0) (aCons (aVar 1) (aCons (aVar 3) (aNil))))) (aGName 7))
  (aSeq (aAsg (aOp aNinL (aVar 7) (aVar 5)) (aGName 8))
  (aSeq (aIfS (aNot (aTru (aVar 4)))
  (aAsg (aOp (aEqNil false) (aLc (aIL (aVar 5)) (aGName 9) (aOr (aTru (aMeth "str" aStartswith (aVar 9) (aCons (aVar 7) (aNil)))) (aTru (aMeth "str" aStartswith (aVar 7) (aCons (aVar 9) (aNil))))) (aVar 9) [9]) (aLst (aNil))) (aGName 8))
  (aNext))
  (aIfS (aTru (aVar 8))
  (aDrop (aMeth "list" aAppend (aVar 5) (aCons (aVar 7) (aNil))))
  (aNext))))))
  (aFrz 5 (aRet (aCall aTupleOf (aCons (aVar 5) (aNil))))))
def s_law_part : ASp := aBody 10 a_law_part
def a_law_is_plan : AS' :=
  aSeq (aIfS (aOr (aNot (aTru (aIsi "tuple" (aVar 1)))) (aB (aOp aGt (aCall aLen (aCons (aVar 1) (aNil))) (aC (.int 3)))))
  (aRet (aC (.bl false)))
  (aNext))
  (aRet (aOp (aEqNil false) (aLc (aIT (aVar 1)) (aGName 2) (aNot (aTru (aCall s_law_is_step (aCons (aVar 0) (aCons (aVar 2) (aNil)))))) (aVar 2) [2]) (aLst (aNil))))
def s_law_is_plan : ASp := aBody 3 a_law_is_plan
def a_law_otherwise : AS' :=
  aSeq (aAsg (aCall s_law_draw (aCons (aVar 0) (aCons (aC (.int 8)) (aNil)))) (aGName 3))
  (aSeq (aAsg (aCall s_law_draw (aCons (aVar 0) (aCons (aCall aLen (aCons (aVar 2) (aNil))) (aNil)))) (aGName 4))
  (aSeq (aAsg (aOp aIx (aVar 2) (aVar 4)) (aGName 5))
  (aSeq (aIfS (aB (aOp aLt (aVar 3) (aC (.int 4))))
  (aSeq (aAsg (aOp aIx (aOp aAdd (aVar 5) (aTup (aCons (aCall s_law_text (aCons (aVar 0) (aCons (aVar 1) (aCons (aC (.int 4)) (aNil))))) (aNil)))) (aC (.int 0))) (aGName 6))
  (aSeq (aAsg (aCall s_law_draw (aCons (aVar 0) (aCons (aOp aAdd (aCall aLen (aCons (aVar 5) (aNil))) (aC (.int 1))) (aNil)))) (aGName 7))
  (aAsg (aOp aAdd (aOp aAdd (aSl aCut (aVar 5) aNoPart (aPart (aVar 7))) (aCall s_law_words (aCons (aVar 0) (aCons (aVar 1) (aCons (aVar 6) (aNil)))))) (aSl aCut (aVar 5) (aPart (aVar 7)) aNoPart)) (aGName 5))))
  (aIfS (aB (aOp aEq (aVar 3) (aC (.int 4))))
  (aAsg (aOp aIx (aLst (aCons (aCall aListOf (aCons (aVar 5) (aNil))) (aCons (aMeth "str" aJoin (aC (.str "")) (aCons (aVar 5) (aNil))) (aCons (aC .non) (aCons (aOp aRepT (aSl aCut (aVar 5) aNoPart (aPart (aC (.int 1)))) (aC (.int 13))) (aCons (aC (.int 3)) (aCons (aDict0F) (aNil)))))))) (aCall s_law_draw (aCons (aVar 0) (aCons (aC (.int 6)) (aNil))))) (aGName 5))
  (aIfS (aB (aOp aEq (aVar 3) (aC (.int 5))))
  (aSeq (aAsg (aMeth "str" aJoin (aC (.str "")) (aCons (aVar 1) (aNil))) (aGName 8))
  (aAsg (aCall aTupleOf (aCons (aLc (aIR1 (aCons (aOp aAdd (aC (.int 12)) (aCall s_law_draw (aCons (aVar 0) (aCons (aC (.int 2)) (aNil))))) (aNil))) (aGName 9) (aYes) (aSl aCut (aOp aMulSI (aC (.int 3)) (aVar 8)) (aPart (aOp aMod (aVar 9) (aC (.int 3)))) (aPart (aOp aAdd (aOp aAdd (aOp aMod (aVar 9) (aC (.int 3))) (aC (.int 1))) (aOp aDiv (aVar 9) (aC (.int 3)))))) [9]) (aNil))) (aGName 5)))
  (aIfS (aB (aOp aEq (aVar 3) (aC (.int 6))))
  (aRet (aOp aIx (aLst (aCons (aTup (aNil)) (aCons (aCall aListOf (aCons (aVar 2) (aNil))) (aCons (aOp aAdd (aVar 2) (aOp aRepT (aTup (aCons (aTup (aNil)) (aNil))) (aOp aSub (aC (.int 6)) (aCall aLen (aCons (aVar 2) (aNil)))))) (aCons (aOp aIx (aVar 2) (aC (.int 0))) (aCons (aC .non) (aCons (aC (.str "step")) (aCons (aOp aRepT (aTup (aCons (aTup (aNil)) (aNil))) (aC (.int 5))) (aNil))))))))) (aCall s_law_draw (aCons (aVar 0) (aCons (aC (.int 7)) (aNil))))))
  (aRet (aOp aAdd (aSl aCut (aVar 2) (aPart (aVar 4)) aNoPart) (aSl aCut (aVar 2) aNoPart (aPart (aVar 4)))))))))
  (aRet (aOp aAdd (aOp aAdd (aSl aCut (aVar 2) aNoPart (aPart (aVar 4))) (aTup (aCons (aVar 5) (aNil)))) (aSl aCut (aVar 2) (aPart (aOp aAdd (aVar 4) (aC (.int 1)))) aNoPart))))))
def s_law_otherwise : ASp := aBody 10 a_law_otherwise
def a_is_part : AS' :=
  aSeq (aIfS (aOr (aNot (aTru (aIsi "tuple" (aVar 1)))) (aB (aOp aGt (aCall aLen (aCons (aVar 1) (aNil))) (aC (.int 12)))))
  (aRet (aC (.bl false)))
  (aNext))
  (aSeq (aFor (aIEG (aCons (aVar 1) (aNil))) (aGTup 2 (aGCons (aGName 2) (aGCons (aGName 3) (aGNil))))
  (aIfS (aOr (aNot (aTru (aCall s_is_word (aCons (aVar 0) (aCons (aVar 3) (aNil)))))) (aOr (aNot (aB (aChain aLe aLe (aC (.int 1)) (aCall aLen (aCons (aVar 3) (aNil))) (aC (.int 6))))) (aB (aOp aInL (aVar 3) (aSl aCut (aVar 1) aNoPart (aPart (aVar 2)))))))
  (aRet (aC (.bl false)))
  (aNext)))
  (aRet (aC (.bl true))))
def s_is_part : ASp := aBody 4 a_is_part
def a_law_step : AS' :=
  aSeq (aAsg (aOp aAdd (aC (.int 1)) (aCall s_law_draw (aCons (aVar 0) (aCons (aVar 2) (aNil))))) (aGName 5))
  (aSeq (aAsg (aLstM (aNil)) (aGName 6))
  (aSeq (aFor (aIR1 (aCons (aVar 5) (aNil))) (aGName 7)
  (aSeq (aAsg (aOp aAdd (aC (.int 1)) (aCall s_law_draw (aCons (aVar 0) (aCons (aVar 4) (aNil))))) (aGName 8))
  (aDrop (aMeth "list" aAppend (aVar 6) (aCons (aCall s_law_part (aCons (aVar 0) (aCons (aVar 1) (aCons (aCall s_law_draw (aCons (aVar 0) (aCons (aOp aAdd (aVar 3) (aC (.int 1))) (aNil)))) (aCons (aVar 8) (aCons (aOp aEq (aVar 7) (aOp aSub (aVar 5) (aC (.int 1)))) (aNil))))))) (aNil))))))
  (aFrz 6 (aRet (aCall aTupleOf (aCons (aVar 6) (aNil)))))))
def s_law_step : ASp := aBody 9 a_law_step
def a_is_step : AS' :=
  aSeq (aIfS (aOr (aNot (aTru (aIsi "tuple" (aVar 1)))) (aNot (aB (aChain aLe aLe (aC (.int 1)) (aCall aLen (aCons (aVar 1) (aNil))) (aC (.int 5))))))
  (aRet (aC (.bl false)))
  (aNext))
  (aSeq (aFor (aIT (aVar 1)) (aGName 2)
  (aIfS (aNot (aTru (aCall s_is_part (aCons (aVar 0) (aCons (aVar 2) (aNil))))))
  (aRet (aC (.bl false)))
  (aNext)))
  (aRet (aNotV (aCall aAny (aCons (aLc (aIT (aSl aCut (aVar 1) aNoPart (aPart (aUn aNeg (aC (.int 1)))))) (aGName 2) (aYes) (aCall s_begins_another (aCons (aVar 2) (aNil))) [2]) (aNil))))))
def s_is_step : ASp := aBody 3 a_is_step
def a_is_plan : AS' :=
  aSeq (aIfS (aOr (aNot (aTru (aIsi "tuple" (aVar 1)))) (aB (aOp aGt (aCall aLen (aCons (aVar 1) (aNil))) (aC (.int 3)))))
  (aRet (aC (.bl false)))
  (aNext))
  (aRet (aCall aAll (aCons (aLc (aIT (aVar 1)) (aGName 2) (aYes) (aCall s_is_step (aCons (aVar 0) (aCons (aVar 2) (aNil)))) [2]) (aNil))))
def s_is_plan : ASp := aBody 3 a_is_plan
def a_law_asked : AS' :=
  aSeq (aAsg (aTup (aCons (aCall s_is_step (aCons (aVar 0) (aCons (aVar 1) (aNil)))) (aCons (aCall s_is_plan (aCons (aVar 0) (aCons (aVar 2) (aNil)))) (aNil)))) (aGName 3))
  (aSeq (aIfS (aOr (aNot (aTru (aIsi "bool" (aOp aIx (aVar 3) (aC (.int 0)))))) (aNot (aTru (aIsi "bool" (aOp aIx (aVar 3) (aC (.int 1)))))))
  (aRet (aC (.bl false)))
  (aNext))
  (aRet (aOp aEq (aVar 3) (aTup (aCons (aCall s_law_is_step (aCons (aVar 0) (aCons (aVar 1) (aNil)))) (aCons (aCall s_law_is_plan (aCons (aVar 0) (aCons (aVar 2) (aNil)))) (aNil)))))))
def s_law_asked : ASp := aBody 4 a_law_asked
def a_law : AS' :=
  aSeq (aFor (aIR1 (aCons (aC (.int 3)) (aNil))) (aGName 1)
  (aSeq (aAsg (aCall s_law_pen (aCons (aVar 0) (aCons (aVar 1) (aNil)))) (aGName 2))
  (aSeq (aAsg (aCall s_law_tongue (aCons (aVar 2) (aCons (aC (.int 6)) (aNil)))) (aGName 3))
  (aSeq (aAsg (aOp aAdd (aC (.int 1)) (aCall s_law_draw (aCons (aVar 2) (aCons (aC (.int 6)) (aNil))))) (aGName 4))
  (aSeq (aAsg (aOp aIx (aLst (aCons (aC (.int 3)) (aCons (aC (.int 12)) (aNil)))) (aCall s_law_draw (aCons (aVar 2) (aCons (aC (.int 2)) (aNil))))) (aGName 5))
  (aSeq (aAsg (aCall aTupleOf (aCons (aLc (aIR1 (aCons (aCall s_law_draw (aCons (aVar 2) (aCons (aC (.int 4)) (aNil)))) (aNil))) (aGName 6) (aYes) (aCall s_law_step (aCons (aVar 2) (aCons (aVar 3) (aCons (aC (.int 5)) (aCons (aVar 5) (aCons (aVar 4) (aNil))))))) [6]) (aNil))) (aGName 7))
  (aSeq (aFor (aIT (aVar 7)) (aGName 8)
  (aIfS (aNot (aTru (aCall s_is_step (aCons (aVar 3) (aCons (aVar 8) (aNil))))))
  (aRet (aC (.bl false)))
  (aNext)))
  (aSeq (aIfS (aOr (aNot (aTru (aCall s_is_plan (aCons (aVar 3) (aCons (aVar 7) (aNil)))))) (aOr (aNot (aTru (aCall s_is_plan (aCons (aVar 3) (aCons (aTup (aNil)) (aNil)))))) (aTru (aCall s_is_plan (aCons (aVar 3) (aCons (aOp aAdd (aVar 7) (aOp aRepT (aTup (aCons (aTup (aCons (aTup (aNil)) (aNil))) (aNil))) (aOp aSub (aC (.int 4)) (aCall aLen (aCons (aVar 7) (aNil)))))) (aNil)))))))
  (aRet (aC (.bl false)))
  (aNext))
  (aSeq (aAsg (aOp aIx (aOp aAdd (aVar 7) (aTup (aCons (aTup (aCons (aTup (aCons (aCall s_law_text (aCons (aVar 2) (aCons (aVar 3) (aCons (aC (.int 3)) (aNil))))) (aNil))) (aNil))) (aNil)))) (aCall s_law_draw (aCons (aVar 2) (aCons (aOp aAdd (aCall aLen (aCons (aVar 7) (aNil))) (aC (.int 1))) (aNil))))) (aGName 8))
  (aSeq (aFor (aIR1 (aCons (aC (.int 3)) (aNil))) (aGName 6)
  (aSeq (aAsg (aCall s_law_otherwise (aCons (aVar 2) (aCons (aVar 3) (aCons (aVar 8) (aNil))))) (aGName 9))
  (aSeq (aIfS (aNot (aTru (aCall s_law_asked (aCons (aVar 3) (aCons (aVar 9) (aCons (aOp aAdd (aSl aCut (aVar 7) aNoPart (aPart (aC (.int 2)))) (aTup (aCons (aVar 9) (aNil)))) (aNil)))))))
  (aRet (aC (.bl false)))
  (aNext))
  (aIfS (aNot (aTru (aCall s_law_asked (aCons (aVar 3) (aCons (aVar 9) (aCons (aOp aAdd (aTup (aCons (aVar 9) (aNil))) (aSl aCut (aVar 7) aNoPart (aPart (aC (.int 1))))) (aNil)))))))
  (aRet (aC (.bl false)))
  (aNext)))))
  (aSeq (aAsg (aOp aIx (aLc (aIS (aC (.str "azb0c1d2e3f4!"))) (aGName 12) (aB (aOp aNinS (aVar 12) (aMeth "str" aJoin (aC (.str "")) (aCons (aVar 3) (aNil))))) (aVar 12) [12]) (aC (.int 0))) (aGName 10))
  (aSeq (aIfS (aOr (aNot (aTru (aCall s_law_asked (aCons (aTup (aCons (aVar 10) (aNil))) (aCons (aVar 8) (aCons (aVar 7) (aNil))))))) (aNot (aTru (aCall s_law_asked (aCons (aVar 3) (aCons (aVar 8) (aCons (aCall aListOf (aCons (aVar 7) (aNil))) (aNil))))))))
  (aRet (aC (.bl false)))
  (aNext))
  (aFor (aIL (aLst (aCons (aC .non) (aCons (aC (.int 0)) (aCons (aC (.bl true)) (aCons (aC (.str "")) (aCons (aC (.str "plan")) (aCons (aLst (aNil)) (aCons (aDict0F) (aCons (aTup (aCons (aTup (aNil)) (aNil))) (aCons (aTup (aCons (aTup (aNil)) (aCons (aTup (aNil)) (aNil)))) (aCons (aTup (aCons (aC .non) (aNil))) (aCons (aTup (aCons (aC (.str "ab")) (aNil))) (aCons (aTup (aCons (aTup (aCons (aTup (aCons (aC (.str "a")) (aNil))) (aNil))) (aCons (aC .non) (aNil)))) (aNil))))))))))))))) (aGName 11)
  (aIfS (aNot (aTru (aCall s_law_asked (aCons (aVar 3) (aCons (aVar 11) (aCons (aVar 11) (aNil)))))))
  (aRet (aC (.bl false)))
  (aNext)))))))))))))))
  (aRet (aC (.bl true)))
def s_law : ASp := aBody 13 a_law
end A_k43
namespace A_k43
open PySem L2 AL
/-- so many may still be drawn -/
def PenC (k : Nat) (c : Cell) : Prop := ∃ f g h : Int, c = .lst [.int f, .int g, .int h] ∧ 0 ≤ f ∧ 0 ≤ h ∧ h + (k : Int) ≤ 1099511627776
def Pen (k : Nat) (C : AH) (p : Addr) : Prop := ∃ c, C p = some c ∧ PenC k c
theorem pen_put {k : Nat} {C : AH} {p : Addr} {c : Cell} (h : PenC k c) : Pen k (put C p c) p := ⟨c, put_same, h⟩
theorem Pen.less {k n : Nat} {C : AH} {p : Addr} (h : Pen n C p) (hk : k ≤ n := by omega) : Pen k C p := by
  obtain ⟨c, h1, f, g, u, h2, h3, h4, h5⟩ := h
  exact ⟨c, h1, f, g, u, h2, h3, h4, by omega⟩
theorem Pen.other {k : Nat} {C : AH} {p q : Addr} {c : Cell} (h : Pen k C p) (hn : p ≠ q) : Pen k (put C q c) p := by
  obtain ⟨d, h1, h2⟩ := h
  exact ⟨d, put_other hn h1, h2⟩
theorem Pen.otherD {k : Nat} {C : AH} {p q : Addr} (h : Pen k C p) (hn : p ≠ q) : Pen k (del C q) p := by
  obtain ⟨d, h1, h2⟩ := h
  exact ⟨d, del_other hn h1, h2⟩
theorem draw_ok {n : Nat} {p : Addr} {m : Nat} {C : AH} {P : D → AH → Prop} (hp : Pen (n + 1) C p) (hm : 0 < m) (hm2 : m < 1073741824)
    (k : ∀ c (d : Nat), PenC n c → d < m → P (.int d) (put C p c)) : s_law_draw [.ce p, .int m] C P := by
  have k2 : ∀ c (d : Int), PenC n c → 0 ≤ d → d < m → P (.int d) (put C p c) := by
    intro c d hc h0 h1
    have e : d = ((d.toNat : Nat) : Int) := by omega
    rw [e]
    exact k c d.toNat hc (by omega)
  obtain ⟨_, hC, f, g, u, rfl, hf, hu0, hu⟩ := hp
  unfold s_law_draw a_law_draw
  walk_at "go"
  rw [show [D.int f, D.int g, D.int u].set (Int.toNat 2) (D.int (u + 1)) = [D.int f, D.int g, D.int (u + 1)] from rfl]
  walk_at "go"
  refine g_ifS ?_
  walk_at "go"
  refine g_iteD (fun h => ?_) (fun h => ?_)
  · walk_at "go"
    rw [show [D.int f, D.int g, D.int (u + 1)].set (Int.toNat 0) (D.int (f / (m : Int))) = [D.int (f / (m : Int)), D.int g, D.int (u + 1)] from rfl, put_put]
    exact k2 _ _ ⟨_, _, _, rfl, Int.ediv_nonneg hf (by omega), by omega, by omega⟩ (Int.emod_nonneg _ (by omega)) (Int.emod_lt_of_pos _ (by omega))
  · walk_at "go"
    exact k2 _ _ ⟨_, _, _, rfl, hf, by omega, by omega⟩ (Int.emod_nonneg _ (by omega)) (Int.emod_lt_of_pos _ (by omega))
theorem g_ixR' {ns : List Int} {i : Int} {j : Nat} {C : AH} {P : D → AH → Prop} (e : i = (j : Int)) (hj : j < ns.length) (h : ∀ x, P (.int x) C) : aIx (.scr ns) (.int i) C P := by
  refine g_ixR (d := .int (ns.getD j 0)) ?_ (h _)
  rw [e]
  refine atI_nat' ?_
  rw [List.getElem?_map, List.getElem?_eq_getElem hj]
  simp [List.getD, List.getElem?_eq_getElem hj]
theorem pen_ok {ns : List Int} {j : Nat} {C : AH} {P : D → AH → Prop} (hj : j < 1000) (k : ∀ p c, C p = none → PenC 1000000 c → P (.ce p) (put C p c)) : s_law_pen [.scr ns, .int j] C P := by
  unfold s_law_pen a_law_pen
  walk_at "go"
  refine g_ifJ (fun st C' => ∃ x : Int, st = [some (.scr ns), some (.int j), some (.int x)] ∧ C' = C) (fun N hN => ?_) (fun st C' hw => ?_)
  · refine g_ifS ?_
    walk_at "go"
    refine g_iteD (fun h => ?_) (fun h => ?_)
    · walk_at "go"
      refine g_ixR' (j := j) rfl (by omega) fun x => ?_
      walk_at "go"
      exact hN _ _ ⟨_, rfl, rfl⟩
    · refine g_ifS ?_
      walk_at "go"
      refine g_iteD (fun h => ?_) (fun h => ?_)
      · have hl : 0 < ns.length := by omega
        walk_at "go"
        refine g_ixR' (j := j % ns.length) (by simp) (Nat.mod_lt _ hl) fun x => ?_
        walk_at "go"
        exact hN _ _ ⟨_, rfl, rfl⟩
      · walk_at "go"
        exact hN _ _ ⟨_, rfl, rfl⟩
  · obtain ⟨x, rfl, rfl⟩ := hw
    walk_at "go"
    refine g_ifS ?_
    walk_at "go"
    refine g_iteD (fun h => ?_) (fun h => ?_)
    · walk_at "go"
      intro p hp
      exact k p _ hp ⟨_, _, _, rfl, by omega, by omega, by omega⟩
    · walk_at "go"
      intro p hp
      exact k p _ hp ⟨_, _, _, rfl, by omega, by omega, by omega⟩
end A_k43
namespace A_k43
open PySem L2 AL
structure Tng (tg : List Str) : Prop where
  one : 1 ≤ (Txt.join "" tg).length
  size : (Txt.join "" tg).length ≤ 12
  good : ∀ c ∈ (Txt.join "" tg).cps.toList, 33 ≤ c ∧ c < 128
def zs (tg : List Str) : List Nat := (Txt.join "" tg).cps.toList
def intsN (L : List Nat) : List Int := L.map fun (n : Nat) => (n : Int)
theorem nats_ints (L : List Nat) : natsD L = (intsN L).map D.int := by unfold natsD intsN; rw [List.map_map]; rfl
theorem ints_sum (L : List Nat) : (intsN L).sum = (L.sum : Nat) := by
  induction L with
  | nil => rfl
  | cons a L ih => show (a : Int) + (intsN L).sum = _; rw [ih, List.sum_cons]; omega
theorem intsD_ints : ∀ L : List Int, intsD (L.map D.int) = some L
  | [] => rfl
  | a :: L => by
    show (intsD (L.map D.int)).map (a :: ·) = _
    rw [intsD_ints L]
    rfl
section
variable {C : AH} {P : D → AH → Prop}
theorem g_sumX {d : D} {L : List Nat} (h : asLr C d = some (natsD L)) (k : P (.int (L.sum : Nat)) C) : aSum [d] C P := by
  show (match (asLr C d).bind intsD with | some bs => P (.int bs.sum) C | none => False)
  rw [h]
  show (match intsD (natsD L) with | some bs => P (.int bs.sum) C | none => False)
  rw [nats_ints, intsD_ints]
  show P (.int (intsN L).sum) C
  rw [ints_sum]
  exact k
theorem g_maxX {d : D} {L : List Nat} (h : asLr C d = some (natsD L)) (hl : 0 < L.length) (k : ∀ m, m ∈ L → (∀ y ∈ L, y ≤ m) → P (.int (m : Nat)) C) : aMaxL [d] C P := by
  refine ⟨natsD L, intsN L, h, nats_ints L, by unfold intsN; rw [List.length_map]; exact hl, fun m hm hmax => ?_⟩
  obtain ⟨n, hn, rfl⟩ := List.mem_map.mp hm
  refine k n hn fun y hy => ?_
  have := hmax y (List.mem_map.mpr ⟨y, hy, rfl⟩)
  omega
theorem g_idxX {d : D} {L : List Nat} {m : Nat} (h : asLr C d = some (natsD L)) (hm : m ∈ L) (k : ∀ j, L[j]? = some m → P (.int (j : Nat)) C) : aLindex d [.int (m : Nat)] C P := by
  refine ⟨natsD L, intsN L, h, nats_ints L, List.mem_map.mpr ⟨m, hm, rfl⟩, fun j hj => ?_⟩
  unfold intsN at hj
  rw [List.getElem?_map] at hj
  cases e : L[j]? with
  | none => rw [e] at hj; cases hj
  | some n =>
    rw [e] at hj
    have : ((n : Nat) : Int) = (m : Int) := by simpa using hj
    exact k j (by rw [e]; congr 1; omega)
theorem sum_set : ∀ {L : List Nat} {j m x : Nat}, L[j]? = some m → (L.set j x).sum + m = L.sum + x
  | a :: L, 0, m, x, h => by
    simp at h
    subst h
    simp
    omega
  | a :: L, j + 1, m, x, h => by
    have := sum_set (L := L) (j := j) (m := m) (x := x) (by simpa using h)
    simp
    omega
theorem sum_few {b : Nat} : ∀ {L : List Nat}, (∀ x ∈ L, x ≤ b) → L.sum ≤ b * L.length
  | [], _ => by simp
  | a :: L, h => by
    have := sum_few (L := L) fun x hx => h x (List.mem_cons_of_mem _ hx)
    have := h a List.mem_cons_self
    rw [List.sum_cons, List.length_cons, Nat.mul_succ]
    omega
theorem sum_pos : ∀ {L : List Nat}, (∀ x ∈ L, 1 ≤ x) → L.length ≤ L.sum
  | [], _ => by simp
  | a :: L, h => by
    have := sum_pos (L := L) fun x hx => h x (List.mem_cons_of_mem _ hx)
    have := h a List.mem_cons_self
    rw [List.sum_cons, List.length_cons]
    omega
def lets : Str := "!\"#$&'()*+,-./0123456789:;<=>?\x40ABCDEFGHIJKLMNOPQRSTUVWXYZ[\\]^_`abcdefghijklmnopqrstuvwxyz{|}~"
theorem lets_ok : (decide (lets.length = 93) && lets.cps.toList.all fun c => decide (33 ≤ c) && decide (c < 128)) = true := by decide +kernel
def Good (z : Str) : Prop := ∀ c ∈ z.cps.toList, 33 ≤ c ∧ c < 128
theorem app_toList (a b : Str) : (a ++ b).cps.toList = a.cps.toList ++ b.cps.toList := TL.tl_append a b
theorem app_len (a b : Str) : (a ++ b).length = a.length + b.length := by rw [← AL.len_toList, app_toList, List.length_append, AL.len_toList, AL.len_toList]
theorem Good.app {a b : Str} (h : Good a) (g : Good b) : Good (a ++ b) := fun c hc => by
  rw [app_toList] at hc
  rcases List.mem_append.mp hc with q | q
  · exact h c q
  · exact g c q
theorem cutS_l (x : Str) (lo hi : Option Int) : (cutS x lo hi).cps.toList = (x.cps.toList.drop (HT.sIx x.length 0 lo)).take (HT.sIx x.length x.length hi - HT.sIx x.length 0 lo) := rfl
theorem Good.cut {a : Str} {lo hi : Option Int} (h : Good a) : Good (cutS a lo hi) := fun c hc => by
  rw [cutS_l] at hc
  exact h c (List.mem_of_mem_drop (List.mem_of_mem_take hc))
theorem cutS_take (x : Str) (j : Nat) : (cutS x none (some (j : Int))).cps.toList = x.cps.toList.take j := by
  rw [cutS_l, HT.sIx_nat]
  rw [show HT.sIx x.length 0 none = 0 from rfl, List.drop_zero, Nat.sub_zero, ← AL.len_toList]
  by_cases h : j ≤ x.cps.toList.length
  · rw [Nat.min_eq_left h]
  · rw [Nat.min_eq_right (by omega), List.take_of_length_le (Nat.le_refl _), List.take_of_length_le (by omega)]
theorem cutS_drop (x : Str) (j : Nat) : (cutS x (some (j : Int)) none).cps.toList = x.cps.toList.drop j := by
  rw [cutS_l, HT.sIx_nat]
  rw [show HT.sIx x.length x.length none = x.length from rfl, ← AL.len_toList]
  by_cases h : j ≤ x.cps.toList.length
  · rw [Nat.min_eq_left h, List.take_of_length_le (by rw [List.length_drop]; omega)]
  · rw [Nat.min_eq_right (by omega), List.drop_eq_nil_of_le (Nat.le_refl _), List.drop_eq_nil_of_le (show x.cps.toList.length ≤ j by omega)]
    simp
def oneS (c : Nat) : Str := ⟨#[c]⟩
theorem g_ixO {z : Str} {i : Nat} (hl : z.length ≤ 10000) (hi : i < z.length) (k : ∀ c, c ∈ z.cps.toList → P (.str (oneS c)) C) : aIx (.str z) (.int (i : Int)) C P := by
  have hi' : i < z.cps.toList.length := by rw [AL.len_toList]; exact hi
  show z.length ≤ sizeLine ∧ (match atI z.cps.toList (i : Int) with | some c => P (.str ⟨#[c]⟩) C | none => False)
  refine ⟨by simp only [sizeLine]; omega, ?_⟩
  rw [atI_nat' (List.getElem?_eq_getElem hi')]
  exact k _ (List.getElem_mem hi')
theorem g_cutSt {x : Str} {lo hi : Option Int} (hl : x.length ≤ 10000) (k : P (.str (cutS x lo hi)) C) : aCut (.str x) lo hi C P := ⟨by simp only [sizeLine]; omega, k⟩
/-- a list of numbers, a cell or not -/
def NX (C : AH) (p : Addr) (x : D) (L : List Nat) : Prop := (∃ q, x = .ce q ∧ q ≠ p ∧ C q = some (.lst (natsD L))) ∨ (x = .lst (natsD L) ∧ L.sum ≤ 12)
theorem NX.as {p : Addr} {x : D} {L : List Nat} (h : NX C p x L) : asLr C x = some (natsD L) := by
  rcases h with ⟨q, rfl, _, h⟩ | ⟨rfl, _⟩
  · show (match C q with | some (.lst ds) => some ds | _ => none) = _
    rw [h]
  · rfl
structure Szs (L : List Nat) : Prop where
  one : 1 ≤ L.length
  few : L.length ≤ 4
  pos : ∀ x ∈ L, 1 ≤ x
  six : ∀ x ∈ L, x ≤ 6
theorem lets_eq : ("!\"#$&'()*+,-./0123456789:;<=>?\x40ABCDEFGHIJKLMNOPQRSTUVWXYZ[\\]^_`abcdefghijklmnopqrstuvwxyz{|}~" : Str) = lets := rfl
theorem sized_ok {n : Nat} {p : Addr} (hp : Pen (n + 30) C p) (k : ∀ tg C', Tng tg → Pen n C' p → Oth p C C' → P (.tup (strsL tg)) C') : s_law_tongue [.ce p, .int 6] C P := by
  unfold s_law_tongue a_law_tongue
  rw [lets_eq]
  have hlk := lets_ok
  generalize lets = lets at hlk ⊢
  walk_at "go"
  refine draw_ok (n := n + 29) (m := 4) hp (by omega) (by omega) fun c d hc hd => ?_
  have hP := pen_put (C := C) (p := p) hc
  have hO := (Oth.refl p C).pen (c := c)
  generalize put C p c = C1 at hP hO ⊢
  have e1 : (1 : Int) + (d : Int) = ((d + 1 : Nat) : Int) := by omega
  walk_at "go"
  rw [e1]
  generalize ham : d + 1 = am
  have ham4 : 1 ≤ am ∧ am ≤ 4 := by omega
  have hrl : (rangeD 0 (am : Int).toNat).length = am := by rw [rangeD_len]; rfl
  refine g_kLc (fun i acc C9 => ∃ L : List Nat, L.length = i ∧ acc = natsD L ∧ (∀ x ∈ L, 1 ≤ x ∧ x ≤ 6) ∧ Pen (n + 25 + (4 - i)) C9 p ∧ Oth p C C9) (by rw [hrl]; simp only [sizeLine]; omega) ⟨[], rfl, rfl, by simp, hP, hO⟩ (fun i d acc C9 hi hw => ?_) (fun acc C9 hw => ?_)
  · have hi2 : i < am := by have := (List.getElem?_eq_some_iff.mp hi).1; rw [hrl] at this; exact this
    obtain ⟨L, hL, rfl, hx, hP9, hO9⟩ := hw
    walk_at "go"
    refine draw_ok (n := n + 25 + (4 - (i + 1))) (m := 6) (hP9.less (k := n + 25 + (4 - (i + 1)) + 1)) (by omega) (by omega) fun c u hc hu => ?_
    walk_at "go"
    refine ⟨L ++ [u + 1], by simp [hL], ?_, fun x hx' => ?_, pen_put hc, hO9.pen⟩
    · unfold natsD
      rw [List.map_append, show (1 : Int) + (u : Int) = ((u + 1 : Nat) : Int) by omega]
      rfl
    · rcases List.mem_append.mp hx' with h | h
      · exact hx x h
      · rw [List.mem_singleton.mp h]; omega
  obtain ⟨L, hL, rfl, hx, hP9, hO9⟩ := hw
  rw [hrl] at hL
  intro g hg
  have hpg : p ≠ g := by obtain ⟨_, h, _⟩ := hP9; exact ne_cell h hg
  have hg0 : C g = none := hO9.none hpg.symm hg
  have hP2 := (hP9.less (k := n + 25)).other (c := .lst (natsD L)) hpg
  have hO2 := hO9.put (c := .lst (natsD L)) hg0
  have hCg : (put C9 g (.lst (natsD L))) g = some (.lst (natsD L)) := put_same
  generalize put C9 g (.lst (natsD L)) = C2 at hP2 hO2 hCg ⊢
  walk_at "go"
  have keep : ∀ (x : D) (C5 : AH), x = .ce g ∨ (∃ L, x = .lst (natsD L)) → True := fun _ _ _ => trivial
  refine g_ifJ (fun st C' => ∃ (x : D) (L : List Nat), NX C' p x L ∧ (x = .ce g ∨ x = .lst (natsD L)) ∧ Szs L ∧ Pen (n + 20) C' p ∧ Oth p C C' ∧ st = [some (.ce p), some (.int 6), some (.str lets), some (.int am), none, some x, none, none, none, none]) (fun N hN => ?_) (fun st C' hw => ?_)
  · refine g_ifS ?_
    walk_at "go"
    rw [show decide ((6 : Int) = 6) = true from rfl]
    walk_at "go"
    refine draw_ok (n := n + 24) (m := 6) hP2 (by omega) (by omega) fun c u hc hu => ?_
    have hP3 := pen_put (C := C2) (p := p) hc
    have hO3 := hO2.pen (c := c)
    have hCg3 := put_other (d := c) hpg.symm hCg
    generalize put C2 p c = C3 at hP3 hO3 hCg3 ⊢
    walk_at "go"
    refine g_ite (fun h => ?_) (fun h => ?_)
    · walk_at "go"
      refine draw_ok (n := n + 23) (m := 4) hP3 (by omega) (by omega) fun c v hc hv => ?_
      have : ∃ L : List Nat, Szs L ∧ L.sum ≤ 12 ∧ atI [D.lst [.int 6, .int 6], D.lst [.int 4, .int 4, .int 4], D.lst [.int 3, .int 3, .int 3, .int 3], D.lst [.int 6, .int 1, .int 5]] (v : Int) = some (.lst (natsD L)) := by
        have : v = 0 ∨ v = 1 ∨ v = 2 ∨ v = 3 := by omega
        rcases this with rfl | rfl | rfl | rfl
        · exact ⟨[6, 6], ⟨by simp, by simp, by simp, by simp⟩, by simp, rfl⟩
        · exact ⟨[4, 4, 4], ⟨by simp, by simp, by simp, by simp⟩, by simp, rfl⟩
        · exact ⟨[3, 3, 3, 3], ⟨by simp, by simp, by simp, by simp⟩, by simp, rfl⟩
        · exact ⟨[6, 1, 5], ⟨by simp, by simp, by simp, by simp⟩, by simp, rfl⟩
      obtain ⟨L2, hS, hsum, hat⟩ := this
      refine g_ixL hat ?_
      walk_at "go"
      exact hN _ _ ⟨_, L2, .inr ⟨rfl, hsum⟩, .inr rfl, hS, (pen_put hc).less, hO3.pen, rfl⟩
    · walk_at "go"
      exact hN _ _ ⟨.ce g, L, .inl ⟨g, rfl, hpg.symm, hCg3⟩, .inl rfl, ⟨by omega, by omega, fun x h => (hx x h).1, fun x h => (hx x h).2⟩, hP3.less, hO3, rfl⟩
  obtain ⟨x, L, hN, hx2, hS, hP3, hO3, rfl⟩ := hw
  walk_at "go"
  refine g_while (fun m st C4 => ∃ (x : D) (L : List Nat), L.sum = m ∧ NX C4 p x L ∧ (x = .ce g ∨ x = .lst (natsD L)) ∧ Szs L ∧ Pen (n + 20) C4 p ∧ Oth p C C4 ∧ st = [some (.ce p), some (.int 6), some (.str lets), some (.int am), none, some x, none, none, none, none]) L.sum ?_ (fun m st C4 hw => ?_)
  · exact ⟨x, L, rfl, hN, hx2, hS, hP3, hO3, rfl⟩
  obtain ⟨x, L, rfl, hN, hx2, hS, hP4, hO4, rfl⟩ := hw
  walk_at "go"
  refine g_sumX hN.as ?_
  walk_at "go"
  refine g_iteD (fun h => ?_) (fun h => ?_)
  · have hgt : 12 < L.sum := by omega
    have hq : x = .ce g ∧ C4 g = some (.lst (natsD L)) := by
      rcases hN with ⟨q, rfl, _, hq⟩ | ⟨rfl, hq⟩
      · rcases hx2 with e | e
        · injection e with e; subst e; exact ⟨rfl, hq⟩
        · cases e
      · omega
    obtain ⟨rfl, hCg4⟩ := hq
    have h1 := hS.one
    walk_at "go"
    refine g_maxX hN.as (by omega) fun m hm hmax => ?_
    walk_at "go"
    refine g_maxX hN.as (by omega) fun m2 hm2 hmax2 => ?_
    walk_at "go"
    have e : m2 = m := Nat.le_antisymm (hmax _ hm2) (hmax2 _ hm)
    subst e
    refine g_idxX hN.as hm fun j hj => ?_
    have hjl := (List.getElem?_eq_some_iff.mp hj).1
    refine g_kSet (k := j) (us := natsD L) hCg4 ?_ ?_
    · rw [natsD_len]
      unfold ixN
      have := hS.few
      rw [if_pos (by omega), if_pos (by omega)]
      rfl
    have hm4 : 4 ≤ m2 := by
      rcases Nat.lt_or_ge m2 4 with q | q
      · have := sum_few (b := 3) (L := L) fun x hx => by have := hmax x hx; omega
        have := hS.few
        have : 3 * L.length ≤ 3 * 4 := Nat.mul_le_mul_left _ hS.few
        omega
      · exact q
    have hsum := sum_set (x := m2 - 1) hj
    have hset : (natsD L).set j (.int ((m2 : Int) - 1)) = natsD (L.set j (m2 - 1)) := by
      unfold natsD
      rw [List.map_set, show (m2 : Int) - 1 = ((m2 - 1 : Nat) : Int) by omega]
    rw [hset]
    have hm6 := hS.six _ hm
    refine ⟨(L.set j (m2 - 1)).sum, by omega, .ce g, L.set j (m2 - 1), rfl, .inl ⟨g, rfl, hpg.symm, put_same⟩, .inl rfl, ⟨by rw [List.length_set]; exact h1, by rw [List.length_set]; exact hS.few, fun y hy => ?_, fun y hy => ?_⟩, hP4.other hpg, hO4.put hg0, rfl⟩
    · rcases List.mem_or_eq_of_mem_set hy with q | q
      · exact hS.pos y q
      · omega
    · rcases List.mem_or_eq_of_mem_set hy with q | q
      · exact hS.six y q
      · omega
  have hle : L.sum ≤ 12 := by omega
  have hpos := hS.pos
  have h1 := hS.one
  have hfew := hS.few
  have hsp := sum_pos hpos
  -- the kinds
  have rest : ∀ C5 : AH, Pen (n + 20) C5 p → Oth p C C5 → ∀ (st : ASt), st = [some (.ce p), some (.int 6), some (.str lets), some (.int am), none, some (.lst (natsD L)), none, none, none, none] →
      (aSeq (aAsg (aLstM (aNil)) (aGName 6)) (aSeq (aFor (aIL (aVar 5)) (aGName 7) (aSeq (aAsg (aC (.str "")) (aGName 8)) (aSeq (aFor (aIR1 (aCons (aVar 7) (aNil))) (aGName 4) (aSeq (aAsg (aCall s_law_draw (aCons (aVar 0) (aCons (aCall aLen (aCons (aVar 2) (aNil))) (aNil)))) (aGName 9)) (aSeq (aAsg (aOp aAdd (aVar 8) (aOp aIx (aVar 2) (aVar 9))) (aGName 8)) (aAsg (aOp aAdd (aSl aCut (aVar 2) aNoPart (aPart (aVar 9))) (aSl aCut (aVar 2) (aPart (aOp aAdd (aVar 9) (aC (.int 1)))) aNoPart)) (aGName 2))))) (aDrop (aMeth "list" aAppend (aVar 6) (aCons (aVar 8) (aNil))))))) (aFrz 6 (aRet (aCall aTupleOf (aCons (aVar 6) (aNil))))))) ⟨fun _ C' => P .non C', P, fun _ _ => False, fun _ _ => False⟩ st C5 := by
    intro C5 hP5 hO5 st hst
    subst hst
    walk_at "go"
    intro g2 hg2
    have hpg2 : p ≠ g2 := by obtain ⟨_, h, _⟩ := hP5; exact ne_cell h hg2
    have hg20 : C g2 = none := hO5.none hpg2.symm hg2
    walk_at "go"
    refine g_kForL (fun i st C' => ∃ (ys : List Str) (z : Str) (x4 x7 x8 x9 : Option D), ys.length = i ∧ (ys.map (·.length)).sum = (L.take i).sum ∧ (∀ y ∈ ys, Good y) ∧ Good z ∧ z.length + (L.take i).sum = 93 ∧ C' g2 = some (.lst (strsL ys)) ∧ Pen (n + 20 - (L.take i).sum) C' p ∧ Oth p C C' ∧ st = [some (.ce p), some (.int 6), some (.str z), some (.int am), x4, some (.lst (natsD L)), some (.ce g2), x7, x8, x9]) ?_ (fun i d st C' hi hw => ?_) (fun st C' hw => ?_)
    · simp only [Bool.and_eq_true, decide_eq_true_eq, List.all_eq_true] at hlk
      exact ⟨[], lets, none, none, none, none, rfl, rfl, by simp, fun c hc => hlk.2 c hc, by simp [hlk.1], put_same, hP5.other hpg2, hO5.put hg20, rfl⟩
    · obtain ⟨ys, z, x4, x7, x8, x9, hyl, hys, hyg, hzg, hzl, hCg2, hP6, hO6, rfl⟩ := hw
      obtain ⟨hil, rfl⟩ := natsD_get hi
      have e : L[i]? = some L[i] := List.getElem?_eq_getElem hil
      have hs6 := hS.six _ (List.getElem_mem hil)
      generalize L[i] = sz at e hs6
      have htk : (L.take (i + 1)).sum = (L.take i).sum + sz := by rw [List.take_add_one, e, List.sum_append]; simp
      have htl : (L.take (i + 1)).sum ≤ L.sum := by
        have := congrArg List.sum (List.take_append_drop (i + 1) L)
        rw [List.sum_append] at this
        omega
      walk_at "go"
      refine g_kForR0 (fun j st C7 => ∃ (w z : Str) (x4 x9 : Option D), w.length = j ∧ Good w ∧ Good z ∧ z.length + ((L.take i).sum + j) = 93 ∧ C7 g2 = some (.lst (strsL ys)) ∧ Pen (n + 20 - ((L.take i).sum + j)) C7 p ∧ Oth p C C7 ∧ st = [some (.ce p), some (.int 6), some (.str z), some (.int am), x4, some (.lst (natsD L)), some (.ce g2), some (.int sz), some (.str w), x9]) ?_ (fun j st C7 hj hw => ?_) (fun st C7 hw => ?_)
      · exact ⟨"", z, x4, x9, by decide +kernel, fun c hc => by revert hc; rw [show ("" : Str).cps.toList = [] by decide +kernel]; simp, hzg, by omega, hCg2, hP6, hO6, rfl⟩
      · obtain ⟨w, z, x4, x9, hwl, hwg, hzg, hzl, hCg2, hP7, hO7, rfl⟩ := hw
        have hj2 : j < sz := hj
        walk_at "go"
        refine g_lenS (by simp only [sizeLine]; omega) ?_
        walk_at "go"
        refine draw_ok (n := n + 20 - ((L.take i).sum + (j + 1))) (hP7.less) (by omega) (by omega) fun c u hc hu => ?_
        have hP8 := pen_put (C := C7) (p := p) hc
        have hO8 := hO7.pen (c := c)
        have hCg8 := put_other (d := c) hpg2.symm hCg2
        generalize put C7 p c = C8 at hP8 hO8 hCg8 ⊢
        walk_at "go"
        refine g_ixO (by omega) hu fun a ha => ?_
        refine g_addS (by rw [show (oneS a).length = 1 from rfl]; simp only [sizeLine]; omega) ?_
        walk_at "go"
        refine g_cutSt (by omega) ?_
        walk_at "go"
        rw [show (u : Int) + 1 = ((u + 1 : Nat) : Int) by omega]
        refine g_cutSt (by omega) ?_
        have l1 : (cutS z none (some (u : Int))).length = u := by rw [← AL.len_toList, cutS_take, List.length_take, AL.len_toList]; omega
        have l2 : (cutS z (some ((u + 1 : Nat) : Int)) none).length = z.length - (u + 1) := by rw [← AL.len_toList, cutS_drop, List.length_drop, AL.len_toList]
        refine g_addS (by rw [l1, l2]; simp only [sizeLine]; omega) ?_
        walk_at "go"
        refine ⟨w ++ oneS a, _, _, _, by rw [app_len, hwl]; rfl, hwg.app (fun c hc => by rw [show c = a by simpa [oneS] using hc]; exact hzg a ha), (hzg.cut).app (hzg.cut), by rw [app_len, l1, l2]; omega, hCg8, hP8, hO8, rfl⟩
      · obtain ⟨w, z, x4, x9, hwl, hwg, hzg, hzl, hCg2, hP7, hO7, rfl⟩ := hw
        have hwl2 : w.length = sz := hwl
        have hsz : ((sz : Nat) : Int).toNat = sz := by omega
        rw [hsz] at hzl hP7
        walk_at "go"
        refine g_append hCg2 (by rw [List.length_map]; simp only [sizeLine]; have := List.length_take_le i L; omega) ?_
        walk_at "go"
        refine ⟨ys ++ [w], z, _, _, _, _, by simp [hyl], by rw [List.map_append, List.sum_append, hys, htk]; simp only [List.map_cons, List.map_nil, List.sum_cons, List.sum_nil]; omega, fun y hy => ?_, hzg, by omega, by rw [put_same]; simp [strsL], (by rw [htk]; exact hP7.other hpg2), hO7.put hg20, rfl⟩
        rcases List.mem_append.mp hy with q | q
        · exact hyg y q
        · rw [List.mem_singleton.mp q]; exact hwg
    · obtain ⟨ys, z, x4, x7, x8, x9, hyl, hys, hyg, hzg, hzl, hCg2, hP6, hO6, rfl⟩ := hw
      rw [natsD_len, List.take_length] at hys hP6
      walk_at "go"
      refine k ys _ ⟨by rw [join_len, hys]; omega, by rw [join_len, hys]; exact hle, fun c hc => ?_⟩ ((hP6.otherD hpg2).less) (hO6.del hg20)
      rw [join_toList] at hc
      obtain ⟨l, hl, hc⟩ := List.mem_flatten.mp hc
      obtain ⟨y, hy, rfl⟩ := List.mem_map.mp hl
      exact hyg y hy c hc
  rcases hx2 with rfl | rfl
  · have hCg4 : C4 g = some (.lst (natsD L)) := by
      rcases hN with ⟨q, e, _, hq⟩ | ⟨e, _⟩
      · injection e with e; subst e; exact hq
      · cases e
    refine g_frzOL rfl hCg4 ?_
    exact rest _ (hP4.otherD hpg) (hO4.del hg0) _ rfl
  · refine g_frzON rfl (fun p e => by cases e) ?_
    exact rest _ hP4 hO4 _ rfl
end
end A_k43
namespace A_k43
open PySem L2 AL
/-- a begins with b -/
def bg (a b : Str) : Bool := decide (a.cps.toList.take b.length = b.cps.toList)
structure Wrd (zs : List Nat) (w : Str) : Prop where
  one : 1 ≤ w.length
  six : w.length ≤ 6
  inn : ∀ c ∈ w.cps.toList, c ∈ zs
structure Prt (zs : List Nat) (free : Bool) (ws : List Str) : Prop where
  few : ws.length ≤ 12
  ok : ∀ w ∈ ws, Wrd zs w
  unl : ws.Nodup
  apart : free = false → ws.Pairwise fun a b => bg a b = false ∧ bg b a = false
def partD (ws : List Str) : D := .tup (strsL ws)
structure Stp (zs : List Nat) (s : List (List Str)) : Prop where
  one : 1 ≤ s.length
  few : s.length ≤ 5
  ok : ∀ (i : Nat) ws, s[i]? = some ws → Prt zs (decide (i + 1 = s.length)) ws
def stepD (s : List (List Str)) : D := .tup (s.map partD)
section
variable {C : AH} {P : D → AH → Prop} {tg : List Str}
theorem joinT_ok (ht : Tng tg) (k : P (.str (Txt.join "" tg)) C) : aJoin (.str "") [.tup (strsL tg)] C P :=
  g_joinET (by have := ht.size; rw [join_len] at this; omega) k
theorem text_ok {n : Nat} {p : Addr} {m : Nat} (ht : Tng tg) (hm1 : 1 ≤ m) (hm : m ≤ 6) (hp : Pen (n + 10) C p) (k : ∀ w C', 1 ≤ w.length → w.length ≤ m → (∀ c ∈ w.cps.toList, c ∈ zs tg) → Pen n C' p → Oth p C C' → P (.str w) C') : s_law_text [.ce p, .tup (strsL tg), .int m] C P := by
  have h12 := ht.size
  have h1 := ht.one
  unfold s_law_text a_law_text
  walk_at "go"
  refine joinT_ok ht ?_
  walk_at "go"
  refine g_lenS (by simp only [sizeLine]; omega) ?_
  walk_at "go"
  refine draw_ok (n := n + 9) hp h1 (by omega) fun c u hc hu => ?_
  walk_at "go"
  refine g_ixO (by omega) hu fun a ha => ?_
  walk_at "go"
  refine draw_ok (n := n + 8) (m := 3) (pen_put hc) (by omega) (by omega) fun c al hc hal => ?_
  rw [put_put]
  walk_at "go"
  refine draw_ok (n := n + 7) (pen_put hc) (by omega) (by omega) fun c t hc ht2 => ?_
  rw [put_put]
  have hP := pen_put (C := C) (p := p) hc
  have hO := (Oth.refl p C).pen (c := c)
  generalize put C p c = C1 at hP hO ⊢
  walk_at "go"
  generalize hbl : decide ((al : Int) = 0) = like
  refine g_kForR0 (fun i st C' => ∃ (w : Str) (x6 x7 : Option D), w.length = i + 1 ∧ (∀ c ∈ w.cps.toList, c ∈ zs tg) ∧ Pen (n + (7 - i)) C' p ∧ Oth p C C' ∧ st = [some (.ce p), some (.tup (strsL tg)), some (.int m), some (.str (Txt.join "" tg)), some (.str w), some (.bl like), x6, x7]) ?_ (fun i st C' hi hw => ?_) (fun st C' hw => ?_)
  · exact ⟨oneS a, none, none, rfl, fun c hc => by rw [show c = a by simpa [oneS] using hc]; exact ha, hP, hO, rfl⟩
  · obtain ⟨w, x6, x7, hwl, hwz, hP2, hO2, rfl⟩ := hw
    have hi2 : i < t := hi
    walk_at "go"
    refine g_lenS (by simp only [sizeLine]; omega) ?_
    walk_at "go"
    refine draw_ok (n := n + (7 - (i + 1))) hP2.less h1 (by omega) fun c u hc hu => ?_
    walk_at "go"
    refine g_ixO (by omega) hu fun b hb => ?_
    walk_at "go"
    refine g_ifJ (fun st C3 => ∃ e, e ∈ zs tg ∧ C3 = put C' p c ∧ st = [some (.ce p), some (.tup (strsL tg)), some (.int m), some (.str (Txt.join "" tg)), some (.str w), some (.bl like), some (.int i), some (.str (oneS e))]) (fun N hN => ?_) (fun st C3 hw => ?_)
    · refine g_ifS ?_
      walk_at "go"
      refine g_ite (fun h => ?_) (fun h => ?_)
      · walk_at "go"
        refine g_ixO (i := 0) (by omega) (by omega) fun e he => ?_
        walk_at "go"
        exact hN _ _ ⟨e, hwz e he, rfl, rfl⟩
      · walk_at "go"
        exact hN _ _ ⟨b, hb, rfl, rfl⟩
    obtain ⟨e, he, rfl, rfl⟩ := hw
    walk_at "go"
    refine g_addS (by rw [show (oneS e).length = 1 from rfl]; simp only [sizeLine]; omega) ?_
    walk_at "go"
    refine ⟨w ++ oneS e, _, _, by rw [app_len, hwl]; rfl, fun c hc => ?_, pen_put hc, hO2.pen, rfl⟩
    rw [app_toList] at hc
    rcases List.mem_append.mp hc with q | q
    · exact hwz c q
    · rw [show c = e by simpa [oneS] using q]; exact he
  · obtain ⟨w, x6, x7, hwl, hwz, hP2, hO2, rfl⟩ := hw
    have hwl2 : w.length = t + 1 := hwl
    walk_at "go"
    exact k w _ (by omega) (by omega) hwz hP2.less hO2
theorem g_kLcFilterH {t : AT'} {e : AE'} {s : ASt} {vs : List Nat} {fin : List D → AH → Prop} {hold : AH → Prop} {items : List D} {j : Nat} (p : D → Bool) (f : D → D) (hh : hold C) (hl : items.length ≤ sizeLine) (ht : ∀ d, d ∈ items → ∀ R : Bool → AH → Prop, R (p d) C → t ((wipeA s vs).set j (some d)) C R) (hs : ∀ d, d ∈ items → p d = true → ∀ R : D → AH → Prop, R (f d) C → e ((wipeA s vs).set j (some d)) C R) (hd : fin ((items.filter p).map f) C) : kLc (aGName j) t e vs fin s items hold C := by
  refine ⟨hl, fun i acc C' => acc = ((items.take i).filter p).map f ∧ C' = C, ⟨rfl, rfl⟩, fun i acc C' _ hw => by rw [hw.2]; exact hh, fun i d acc C' hi hw => ?_, fun acc C' hw => ?_⟩
  · obtain ⟨rfl, rfl⟩ := hw
    refine ht d (List.mem_of_getElem? hi) _ ?_
    dsimp only
    rw [List.take_add_one, hi, List.filter_append, List.map_append]
    by_cases hp : p d = true
    · rw [if_pos hp]
      refine hs d (List.mem_of_getElem? hi) hp _ ⟨?_, rfl⟩
      simp [hp]
    · rw [if_neg hp]
      refine ⟨?_, rfl⟩
      simp [hp]
  · obtain ⟨rfl, rfl⟩ := hw
    rw [List.take_length]
    exact hd
theorem toVs_strs : ∀ ys : List Str, toVs (strsL ys) = some (ys.map V.str)
  | [] => rfl
  | y :: ys => by
    show (match toV (.str y), toVs (strsL ys) with | some v, some vs => some (v :: vs) | _, _ => none) = _
    rw [toVs_strs ys]
    rfl
theorem beq_swap (a w : Str) : (a == w) = decide (w = a) := by
  by_cases h : w = a
  · subst h; simp
  · rw [decide_eq_false h]
    exact beq_eq_false_iff_ne.mpr (Ne.symm h)
theorem inV_strs (w : Str) : ∀ ys : List Str, inV (.str w) (ys.map V.str) = decide (w ∈ ys)
  | [] => rfl
  | y :: ys => by
    have : inV (.str w) ((y :: ys).map V.str) = (eqV (.str y) (.str w) || inV (.str w) (ys.map V.str)) := rfl
    rw [this, inV_strs w ys, show eqV (.str y) (.str w) = (y == w) from rfl, beq_swap]
    simp [Bool.decide_or]
theorem g_ninC {q : Addr} {w : Str} {ws : List Str} (hq : C q = some (.lst (strsL ws))) (h : P (.bl (!decide (w ∈ ws))) C) : aNinL (.str w) (.ce q) C P := by
  show (match toV (.str w), (match C q with | some (.lst us) => some us | _ => none).bind toVs with | some u, some us => P (.bl (if true then !inV u us else inV u us)) C | _, _ => False)
  rw [hq]
  show (match toV (.str w), toVs (strsL ws) with | some u, some us => P (.bl (if true then !inV u us else inV u us)) C | _, _ => False)
  rw [toVs_strs]
  show P (.bl (!inV (.str w) (ws.map V.str))) C
  rw [inV_strs]
  exact h
theorem g_inT {w : Str} {ws : List Str} (h : P (.bl (decide (w ∈ ws))) C) : aInL (.str w) (.tup (strsL ws)) C P := by
  show (match toV (.str w), toVs (strsL ws) with | some u, some us => P (.bl (if false then !inV u us else inV u us)) C | _, _ => False)
  rw [toVs_strs]
  show P (.bl (inV (.str w) (ws.map V.str))) C
  rw [inV_strs]
  exact h
theorem fil_strs (w : Str) (ws : List Str) : (((strsL ws).filter fun d => match d with | .str x => bg x w || bg w x | _ => false).map id) = strsL (ws.filter fun x => bg x w || bg w x) := by
  rw [List.map_id]
  unfold strsL
  rw [List.filter_map]
  rfl
theorem bg_self (w : Str) : bg w w = true := by
  unfold bg
  rw [← AL.len_toList, List.take_length]
  simp
theorem part_ok {n : Nat} {p : Addr} {most size : Nat} {free : Bool} (ht : Tng tg) (hs1 : 1 ≤ size) (hs : size ≤ 6) (hm : most ≤ 12) (hp : Pen (n + 120) C p) (k : ∀ ws C', Prt (zs tg) free ws → Pen n C' p → Oth p C C' → P (partD ws) C') : s_law_part [.ce p, .tup (strsL tg), .int most, .int size, .bl free] C P := by
  unfold s_law_part a_law_part
  walk_at "go"
  intro q hq
  have hpq : p ≠ q := by obtain ⟨_, h, _⟩ := hp; exact ne_cell h hq
  have hP := hp.other (c := .lst []) hpq
  have hCq : (put C q (.lst [])) q = some (.lst (strsL [])) := put_same
  have hO1 := (Oth.refl p C).put (c := .lst []) hq
  generalize put C q (.lst []) = C1 at hP hCq hO1 ⊢
  walk_at "go"
  refine g_kForR0 (fun i st C' => ∃ (ws : List Str) (x6 x7 x8 : Option D), ws.length ≤ i ∧ Prt (zs tg) free ws ∧ C' q = some (.lst (strsL ws)) ∧ Pen (n + 10 * (12 - i)) C' p ∧ Oth p C C' ∧ st = [some (.ce p), some (.tup (strsL tg)), some (.int most), some (.int size), some (.bl free), some (.ce q), x6, x7, x8, none]) ?_ (fun i st C' hi hw => ?_) (fun st C' hw => ?_)
  · exact ⟨[], none, none, none, by simp, ⟨by simp, by simp, by simp, by simp⟩, hCq, hP, hO1, rfl⟩
  · obtain ⟨ws, x6, x7, x8, hwl, hws, hCq, hP2, hO2, rfl⟩ := hw
    have hi2 : i < most := hi
    walk_at "go"
    refine text_ok (n := n + 10 * (12 - (i + 1))) ht hs1 hs (hP2.less) fun w C3 hw1 hw2 hwz hP3 hO3 => ?_
    have hW : Wrd (zs tg) w := ⟨hw1, by omega, hwz⟩
    have hCq3 := hO3 _ _ hpq.symm hCq
    have hO4 := hO2.trans hO3
    walk_at "go"
    refine g_ninC hCq3 ?_
    walk_at "go"
    have fin : ∀ (good : Bool), (good = true → w ∉ ws) → (good = true → free = false → ∀ a ∈ ws, bg a w = false ∧ bg w a = false) → 
        aIfS (aTru (aVar 8)) (aDrop (aMeth "list" aAppend (aVar 5) (aCons (aVar 7) (aNil)))) (aNext) ⟨fun st C' => ∃ (ws : List Str) (x6 x7 x8 : Option D), ws.length ≤ i + 1 ∧ Prt (zs tg) free ws ∧ C' q = some (.lst (strsL ws)) ∧ Pen (n + 10 * (12 - (i + 1))) C' p ∧ Oth p C C' ∧ st = [some (.ce p), some (.tup (strsL tg)), some (.int most), some (.int size), some (.bl free), some (.ce q), x6, x7, x8, none], P, fun _ _ => False, fun _ _ => False⟩ [some (.ce p), some (.tup (strsL tg)), some (.int most), some (.int size), some (.bl free), some (.ce q), some (.int i), some (.str w), some (.bl good), none] C3 := by
      intro good h1 h2
      refine g_ifS ?_
      walk_at "go"
      refine g_ite (fun hg => ?_) (fun hg => ?_)
      · walk_at "go"
        refine g_append hCq3 (by rw [List.length_map]; simp only [sizeLine]; omega) ?_
        walk_at "go"
        refine ⟨ws ++ [w], _, _, _, by rw [List.length_append, List.length_singleton]; omega, ⟨by rw [List.length_append, List.length_singleton]; omega, fun a ha => ?_, ?_, fun e => ?_⟩, by rw [put_same]; simp [strsL], hP3.other hpq, hO4.put hq, rfl⟩
        · rcases List.mem_append.mp ha with h | h
          · exact hws.ok a h
          · rw [List.mem_singleton.mp h]; exact hW
        · refine List.nodup_append.mpr ⟨hws.unl, by simp, fun a ha b hb e => ?_⟩
          rw [List.mem_singleton.mp hb] at e
          subst e
          exact h1 hg ha
        · refine List.pairwise_append.mpr ⟨hws.apart e, by simp, fun a ha b hb => ?_⟩
          rw [List.mem_singleton.mp hb]
          exact h2 hg e a ha
      · walk_at "go"
        exact ⟨ws, _, _, _, by omega, hws, hCq3, hP3, hO4, rfl⟩
    refine g_ifJ (fun st C5 => ∃ good : Bool, (good = true → w ∉ ws) ∧ (good = true → free = false → ∀ a ∈ ws, bg a w = false ∧ bg w a = false) ∧ C5 = C3 ∧ st = [some (.ce p), some (.tup (strsL tg)), some (.int most), some (.int size), some (.bl free), some (.ce q), some (.int i), some (.str w), some (.bl good), none]) (fun N hN => ?_) (fun st C5 hw => ?_)
    · refine g_ifS ?_
      walk_at "go"
      refine g_ite (fun hf => ?_) (fun hf => ?_)
      · walk_at "go"
        refine g_kILc hCq3 ?_ (fun h1 h2 m h => kLc_mono m h)
        refine g_kLcFilterH (fun d => match d with | .str x => bg x w || bg w x | _ => false) id hCq3 (by rw [List.length_map]; have := hws.few; simp only [sizeLine]; omega) (fun d hd R hR => ?_) (fun d hd hp R hR => ?_) ?_
        · obtain ⟨x, hx, rfl⟩ := List.mem_map.mp hd
          have hR : R (bg x w || bg w x) C3 := hR
          walk_at "go"
          refine g_starts ?_
          walk_at "go"
          refine g_ite (fun h => ?_) (fun h => ?_)
          · rw [show bg x w = true from h, Bool.true_or] at hR
            exact hR
          · rw [show bg x w = false from h, Bool.false_or] at hR
            walk_at "go"
            refine g_starts ?_
            walk_at "go"
            exact hR
        · obtain ⟨x, hx, rfl⟩ := List.mem_map.mp hd
          walk_at "go"
          exact hR
        rw [fil_strs]
        walk_at "go"
        have hall : (strsL (ws.filter fun x => bg x w || bg w x)).isEmpty = true → ∀ a ∈ ws, bg a w = false ∧ bg w a = false := by
          intro he a ha
          have he2 : (ws.filter fun x => bg x w || bg w x) = [] := by
            cases e : ws.filter fun x => bg x w || bg w x with
            | nil => rfl
            | cons b l => rw [e] at he; simp at he
          have := List.filter_eq_nil_iff.mp he2 a ha
          simpa using this
        refine hN _ _ ⟨_, fun he hm => ?_, fun he _ => hall he, rfl, rfl⟩
        have := (hall he w hm).1
        rw [bg_self] at this
        cases this
      · have hf2 : free = true := by simpa using hf
        walk_at "go"
        exact hN _ _ ⟨!decide (w ∈ ws), (fun h => by simpa using h), (fun _ e => by rw [hf2] at e; cases e), rfl, rfl⟩
    obtain ⟨good, h1, h2, rfl, rfl⟩ := hw
    exact fin good h1 h2
  · obtain ⟨ws, x6, x7, x8, hwl, hws, hCq, hP2, hO2, rfl⟩ := hw
    walk_at "go"
    exact k ws _ hws ((hP2.otherD hpq).less) (hO2.del hq)
theorem step_ok {n : Nat} {p : Addr} {most size : Nat} (ht : Tng tg) (hs1 : 1 ≤ size) (hs : size ≤ 6) (hm : most ≤ 12) (hp : Pen (n + 700) C p) (k : ∀ s C', Stp (zs tg) s → Pen n C' p → Oth p C C' → P (stepD s) C') : s_law_step [.ce p, .tup (strsL tg), .int 5, .int most, .int size] C P := by
  unfold s_law_step a_law_step
  walk_at "go"
  refine draw_ok (n := n + 699) (m := 5) hp (by omega) (by omega) fun c u hc hu => ?_
  have hP := pen_put (C := C) (p := p) hc
  have hO := (Oth.refl p C).pen (c := c)
  generalize put C p c = C1 at hP hO ⊢
  have e1 : (1 : Int) + (u : Int) = ((u + 1 : Nat) : Int) := by omega
  walk_at "go"
  rw [e1]
  generalize hmy : u + 1 = many
  have hm5 : 1 ≤ many ∧ many ≤ 5 := by omega
  intro q hq
  have hpq : p ≠ q := by obtain ⟨_, h, _⟩ := hP; exact ne_cell h hq
  have hq0 : C q = none := hO.none hpq.symm hq
  have hP2 := hP.other (c := .lst []) hpq
  have hO2 := hO.put (c := .lst []) hq0
  have hCq : (put C1 q (.lst [])) q = some (.lst (([] : List (List Str)).map partD)) := put_same
  generalize put C1 q (.lst []) = C2 at hP2 hO2 hCq ⊢
  walk_at "go"
  refine g_kForR0 (fun i st C' => ∃ (s : List (List Str)) (x7 x8 : Option D), s.length = i ∧ (∀ (a : Nat) ws, s[a]? = some ws → Prt (zs tg) (decide (a + 1 = many)) ws) ∧ C' q = some (.lst (s.map partD)) ∧ Pen (n + 130 * (5 - i)) C' p ∧ Oth p C C' ∧ st = [some (.ce p), some (.tup (strsL tg)), some (.int 5), some (.int most), some (.int size), some (.int many), some (.ce q), x7, x8]) ?_ (fun i st C' hi hw => ?_) (fun st C' hw => ?_)
  · exact ⟨[], none, none, rfl, by simp, hCq, hP2.less, hO2, rfl⟩
  · obtain ⟨s, x7, x8, hsl, hs', hCq, hP3, hO3, rfl⟩ := hw
    have hi2 : i < many := hi
    walk_at "go"
    refine draw_ok (n := n + 130 * (5 - (i + 1)) + 129) (hP3.less) (by omega) (by omega) fun c ta hc hta => ?_
    have hP4 := pen_put (C := C') (p := p) hc
    have hO4 := hO3.pen (c := c)
    have hCq4 := put_other (d := c) hpq.symm hCq
    generalize put C' p c = C4 at hP4 hO4 hCq4 ⊢
    walk_at "go"
    rw [show (most : Int) + 1 = ((most + 1 : Nat) : Int) by omega]
    refine draw_ok (n := n + 130 * (5 - (i + 1)) + 128) hP4 (by omega) (by omega) fun c mo hc hmo => ?_
    have hP5 := pen_put (C := C4) (p := p) hc
    have hO5 := hO4.pen (c := c)
    have hCq5 := put_other (d := c) hpq.symm hCq4
    generalize put C4 p c = C5 at hP5 hO5 hCq5 ⊢
    walk_at "go"
    rw [show decide ((i : Int) = (many : Int) - 1) = decide (i + 1 = many) from decide_eq_decide.mpr (by omega), show (1 : Int) + (ta : Int) = ((ta + 1 : Nat) : Int) by omega]
    refine part_ok (n := n + 130 * (5 - (i + 1))) ht (by omega) (by omega) (by omega) (hP5.less) fun ws C6 hws hP6 hO6 => ?_
    have hCq6 := hO6 _ _ hpq.symm hCq5
    walk_at "go"
    refine g_append hCq6 (by rw [List.length_map]; simp only [sizeLine]; omega) ?_
    walk_at "go"
    refine ⟨s ++ [ws], _, _, by simp [hsl], fun a us ha => ?_, by rw [put_same]; simp, hP6.other hpq, (hO5.trans hO6).put hq0, rfl⟩
    by_cases h : a < s.length
    · rw [List.getElem?_append_left h] at ha
      exact hs' a us ha
    · have hal : a < (s ++ [ws]).length := (List.getElem?_eq_some_iff.mp ha).1
      rw [List.length_append, List.length_singleton] at hal
      have e : a = s.length := by omega
      subst e
      simp at ha
      subst ha
      rw [hsl]
      exact hws
  · obtain ⟨s, x7, x8, hsl, hs', hCq, hP3, hO3, rfl⟩ := hw
    have hsl2 : s.length = many := hsl
    walk_at "go"
    exact k s _ ⟨by omega, by omega, by rw [hsl2]; exact hs'⟩ ((hP3.otherD hpq).less) (hO3.del hq0)
end
end A_k43
namespace A_k43
open PySem L2 AL
/-- things -/
inductive Tq : Nat → D → Prop
  | non (n : Nat) : Tq n .non
  | bl (n : Nat) (b : Bool) : Tq n (.bl b)
  | int (n : Nat) (i : Int) : Tq n (.int i)
  | str (n : Nat) {z : Str} : z.length ≤ 1000 → Tq n (.str z)
  | dk (n : Nat) : Tq (n + 3) (.dk [])
  | lst {n : Nat} {us : List D} : us.length ≤ 100 → (∀ d ∈ us, Tq n d) → Tq (n + 1) (.lst us)
  | tup {n : Nat} {us : List D} : us.length ≤ 100 → (∀ d ∈ us, Tq n d) → Tq (n + 1) (.tup us)
theorem Tq.succ : ∀ {n : Nat} {d : D}, Tq n d → Tq (n + 1) d := by
  intro n
  induction n with
  | zero => intro d h; cases h with
    | non => exact .non _ | bl => exact .bl _ _ | int => exact .int _ _ | str => rename_i h; exact .str _ h
  | succ n ih => intro d h; cases h with
    | non => exact .non _ | bl => exact .bl _ _ | int => exact .int _ _ | str => rename_i h; exact .str _ h | dk => exact .dk _
    | lst h1 h2 => exact .lst h1 fun d hd => ih (h2 d hd)
    | tup h1 h2 => exact .tup h1 fun d hd => ih (h2 d hd)
theorem Tq.mono {n m : Nat} {d : D} (h : Tq n d) (hm : n ≤ m) : Tq m d := by
  induction hm with
  | refl => exact h
  | step _ ih => exact ih.succ
def isTupD : D → Bool | .tup _ => true | _ => false
def isStrD : D → Bool | .str _ => true | _ => false
theorem kd {n : Nat} {d : D} (h : Tq n d) (C : AH) : ∃ t, kindOf C d = some t ∧ isT "str" t = isStrD d ∧ isT "tuple" t = isTupD d := by
  cases h with
  | non => exact ⟨_, rfl, rfl, rfl⟩
  | bl => exact ⟨_, rfl, rfl, rfl⟩
  | int => exact ⟨_, rfl, rfl, rfl⟩
  | str => exact ⟨_, rfl, rfl, rfl⟩
  | dk => exact ⟨_, rfl, rfl, rfl⟩
  | lst => exact ⟨_, rfl, rfl, rfl⟩
  | tup => exact ⟨_, rfl, rfl, rfl⟩
theorem isTup_inv {d : D} (h : isTupD d = true) : ∃ us, d = .tup us := by cases d <;> first | exact ⟨_, rfl⟩ | cases h
theorem isStr_inv {d : D} (h : isStrD d = true) : ∃ us, d = .str us := by cases d <;> first | exact ⟨_, rfl⟩ | cases h
theorem tup_in {n : Nat} {us : List D} (h : Tq n (.tup us)) : us.length ≤ 100 ∧ ∀ d ∈ us, Tq n d := by
  cases h with
  | tup h1 h2 => exact ⟨h1, fun d hd => (h2 d hd).succ⟩
/-- a text of one to six of these signs -/
def wdB (zs : List Nat) : D → Bool
  | .str w => decide (1 ≤ w.length) && decide (w.length ≤ 6) && w.cps.toList.all (fun c => decide (c ∈ zs))
  | _ => false
def sOf : D → Str | .str x => x | _ => ""
def partB (zs : List Nat) : D → Bool
  | .tup ws => decide (ws.length ≤ 12) && ws.all (wdB zs) && decide (ws.map sOf).Nodup
  | _ => false
/-- no one begins with another one -/
def apartL (ws : List Str) : Bool := (List.range ws.length).all fun i => (List.range ws.length).all fun j => decide (i = j) || !bg (ws.getD j "") (ws.getD i "")
def apartB : D → Bool
  | .tup ws => apartL (ws.map sOf)
  | _ => true
def stepB (zs : List Nat) : D → Bool
  | .tup ps => decide (1 ≤ ps.length) && decide (ps.length ≤ 5) && ps.all (partB zs) && (ps.take (ps.length - 1)).all apartB
  | _ => false
def planB (zs : List Nat) : D → Bool
  | .tup ss => decide (ss.length ≤ 3) && ss.all (stepB zs)
  | _ => false
theorem wd_strs {zs : List Nat} : ∀ {ws : List D}, ws.all (wdB zs) = true → ∃ xs : List Str, ws = strsL xs ∧ ∀ x ∈ xs, Wrd zs x
  | [], _ => ⟨[], rfl, by simp⟩
  | d :: ws, h => by
    rw [List.all_cons, Bool.and_eq_true] at h
    obtain ⟨xs, rfl, hx⟩ := wd_strs h.2
    obtain ⟨x, rfl⟩ : ∃ x, d = .str x := by cases d <;> first | exact ⟨_, rfl⟩ | cases h.1
    refine ⟨x :: xs, rfl, fun y hy => ?_⟩
    rcases List.mem_cons.mp hy with e | e
    · subst e
      have h1 := h.1
      simp only [wdB, Bool.and_eq_true, decide_eq_true_eq, List.all_eq_true] at h1
      exact ⟨h1.1.1, h1.1.2, h1.2⟩
    · exact hx y e
theorem sOf_strs (xs : List Str) : (strsL xs).map sOf = xs := by unfold strsL; rw [List.map_map]; exact List.map_id xs
section
variable {C : AH} {P : D → AH → Prop} {tg : List Str}
theorem g_kTupD {n : Nat} {d : D} (h : Tq n d) (k : P (.bl (isTupD d)) C) : kIsi "tuple" P d C := by
  obtain ⟨t, h1, _, h2⟩ := kd h C
  exact g_kIsi h1 (h2 ▸ k)
theorem g_kStrD {n : Nat} {d : D} (h : Tq n d) (k : P (.bl (isStrD d)) C) : kIsi "str" P d C := by
  obtain ⟨t, h1, h2, _⟩ := kd h C
  exact g_kIsi h1 (h2 ▸ k)
theorem in_one (c : Nat) (z : Str) : (!(Builtin.Str.occurrences z ⟨#[c]⟩ 0 z.length 1).isEmpty) = decide (c ∈ z.cps.toList) := PySem.StrLaws.found_one ..
theorem blsD_mapS {α : Type} (f : α → Bool) : ∀ l : List α, blsD (l.map fun c => D.bl (f c)) = some (l.map f)
  | [] => rfl
  | a :: l => by
    show (blsD (l.map fun c => D.bl (f c))).map (f a :: ·) = _
    rw [blsD_mapS f l]
    rfl
theorem signs_of_ok (ht : Tng tg) (k : P (.str (Txt.join "" tg)) C) : s_signs_of [.tup (strsL tg)] C P := by
  unfold s_signs_of a_signs_of
  walk_at "go"
  exact joinT_ok ht k
theorem has_ok (ht : Tng tg) {w : Str} (hl : w.length ≤ 1000) (k : P (.bl (w.cps.toList.all fun c => decide (c ∈ zs tg))) C) : s_has_signs [.tup (strsL tg), .str w] C P := by
  unfold s_has_signs a_has_signs
  walk_at "go"
  refine signs_of_ok ht ?_
  walk_at "go"
  have hsl : (AL.signs w).length = w.length := by unfold AL.signs; rw [List.length_map, AL.len_toList]
  refine g_kLc (fun i acc C9 => acc = ((w.cps.toList.take i).map fun c => D.bl (decide (c ∈ zs tg))) ∧ C9 = C) (by rw [hsl]; simp only [sizeLine]; omega) ⟨rfl, rfl⟩ (fun i d acc C9 hi hw' => ?_) (fun acc C9 hw' => ?_)
  · obtain ⟨rfl, rfl⟩ := hw'
    unfold AL.signs at hi
    rw [List.getElem?_map] at hi
    cases e : w.cps.toList[i]? with
    | none => rw [e] at hi; cases hi
    | some c =>
      rw [e] at hi
      cases hi
      walk_at "go"
      refine g_inS ?_
      rw [in_one]
      exact ⟨by rw [List.take_add_one, e, List.map_append]; rfl, rfl⟩
  · obtain ⟨rfl, rfl⟩ := hw'
    rw [hsl, ← AL.len_toList, List.take_length]
    walk_at "go"
    refine g_all (blsD_mapS _ _) ?_
    rw [List.all_map]
    exact k
theorem is_word_ok (ht : Tng tg) {n : Nat} {d : D} (h : Tq n d) (k : ∀ b, (b = true → ∃ w, d = .str w) → (∀ w, d = .str w → w.length ≤ 60 → b = w.cps.toList.all fun c => decide (c ∈ zs tg)) → P (.bl b) C) : s_is_word [.tup (strsL tg), d] C P := by
  unfold s_is_word a_is_word
  walk_at "go"
  refine g_kStrD h ?_
  cases e : isStrD d with
  | false =>
    refine g_kAnd (fun h => by cases h) (fun _ => ?_)
    exact k false (fun h => by cases h) (fun w hw => by subst hw; cases e)
  | true =>
    obtain ⟨w, rfl⟩ := isStr_inv e
    have hl : w.length ≤ 1000 := by cases h with | str => assumption
    refine g_kAnd (fun _ => ?_) (fun h => by cases h)
    walk_at "go"
    refine g_lenS (by simp only [sizeLine]; omega) ?_
    walk_at "go"
    refine g_kAnd (fun h60 => ?_) (fun h60 => ?_)
    · walk_at "go"
      exact has_ok ht hl (k _ (fun _ => ⟨w, rfl⟩) (fun w' e _ => by injection e with e; rw [e]))
    · have := of_decide_eq_false h60
      exact k false (fun h => by cases h) (fun w' e hw => by injection e with e; subst e; omega)
theorem all_take {α : Type} {f : α → Bool} {l : List α} {i : Nat} {d : α} (h : (l.take i).all f = true) (e : l[i]? = some d) (hd : f d = true) : (l.take (i + 1)).all f = true := by
  rw [List.take_add_one, e, List.all_append, h]
  simp [hd]
theorem all_no {α : Type} {f : α → Bool} {l : List α} {d : α} (h : d ∈ l) (hd : f d = false) : l.all f = false := by
  rw [List.all_eq_false]
  exact ⟨d, h, by rw [hd]; simp⟩
theorem g_cutT {us : List D} {a b : Option Int} (k : P (.tup (cutD us a b)) C) : aCut (.tup us) a b C P := k
theorem g_cutTakeT {us : List D} {j : Nat} (h0 : P (.tup (us.take j)) C) : aCut (.tup us) none (some (j : Int)) C P := by
  show P (.tup (cutD us none (some (j : Int)))) C
  rw [cutD_take]
  exact h0
theorem part_not {z : List Nat} {d : D} (h : isTupD d = false) : partB z d = false := by cases d <;> first | rfl | cases h
theorem nodup_take {xs : List Str} {i : Nat} {x : Str} (h : (xs.take i).Nodup) (e : xs[i]? = some x) (hx : x ∉ xs.take i) : (xs.take (i + 1)).Nodup := by
  rw [List.take_add_one, e]
  refine List.nodup_append.mpr ⟨h, by simp, fun a ha b hb q => ?_⟩
  have : b = x := by simpa using hb
  subst this
  subst q
  exact hx ha
theorem nodup_sub {xs : List Str} {i : Nat} {x : Str} (e : xs[i]? = some x) (hx : x ∈ xs.take i) : ¬ xs.Nodup := by
  intro h
  have hsp := List.take_append_drop i xs
  rw [← hsp] at h
  obtain ⟨_, _, h3⟩ := List.nodup_append.mp h
  have hi := (List.getElem?_eq_some_iff.mp e).1
  have h2 := (List.getElem?_eq_some_iff.mp e).2
  have : x ∈ xs.drop i := by
    rw [← h2]
    exact List.mem_drop_iff_getElem.mpr ⟨0, by omega, by simp⟩
  exact h3 x hx x this rfl
theorem is_part_ok (ht : Tng tg) {n : Nat} {d : D} (h : Tq n d) (k : P (.bl (partB (zs tg) d)) C) : s_is_part [.tup (strsL tg), d] C P := by
  unfold s_is_part a_is_part
  walk_at "go"
  refine g_ifJ (fun st C' => C' = C ∧ st = [some (.tup (strsL tg)), some d, none, none] ∧ ∃ us, d = .tup us ∧ us.length ≤ 12) (fun N hN => ?_) (fun st C' hw => ?_)
  · refine g_ifS ?_
    walk_at "go"
    refine g_kTupD h ?_
    cases e : isTupD d with
    | false =>
      walk_at "go"
      rw [part_not e] at k
      exact k
    | true =>
      obtain ⟨us, rfl⟩ := isTup_inv e
      walk_at "go"
      refine g_iteD (fun hl => ?_) (fun hl => ?_)
      · walk_at "go"
        have : partB (zs tg) (.tup us) = false := by
          show (decide (us.length ≤ 12) && _ && _) = false
          rw [decide_eq_false (by omega)]
          rfl
        rw [this] at k
        exact k
      · walk_at "go"
        exact hN _ _ ⟨rfl, rfl, us, rfl, by omega⟩
  obtain ⟨rfl, rfl, us, rfl, hl⟩ := hw
  obtain ⟨_, hus⟩ := tup_in h
  have hk : partB (zs tg) (.tup us) = (us.all (wdB (zs tg)) && decide (us.map sOf).Nodup) := by
    show (decide (us.length ≤ 12) && _ && _) = _
    rw [decide_eq_true hl, Bool.true_and]
  rw [hk] at k
  walk_at "go"
  refine g_ieG ?_
  walk_at "go"
  refine g_kIEG (ds := us) (fun _ => rfl) ?_
  refine g_kFor (fun i st C2 => C2 = C' ∧ (us.take i).all (wdB (zs tg)) = true ∧ ((us.map sOf).take i).Nodup ∧ ∃ x2 x3, st = [some (.tup (strsL tg)), some (.tup us), x2, x3]) ⟨rfl, rfl, by simp, none, none, rfl⟩ (fun i d st C2 hi hw => ?_) (fun st C2 hw => ?_)
  · obtain ⟨rfl, hal, hnd, x2, x3, rfl⟩ := hw
    obtain ⟨x, hx, rfl⟩ := enumD_inv hi
    have hm := List.mem_of_getElem? hx
    have hTx := hus x hm
    have bad : wdB (zs tg) x = false → P (.bl false) C2 := fun e => by
      rw [all_no hm e, Bool.false_and] at k
      exact k
    walk_at "go"
    refine g_ifS ?_
    walk_at "go"
    refine is_word_ok ht hTx fun b hb1 hb2 => ?_
    cases b with
    | false =>
      walk_at "go"
      refine bad ?_
      cases x with
      | str w =>
        have hw60 := hb2 w rfl
        show (decide (1 ≤ w.length) && decide (w.length ≤ 6) && _) = false
        by_cases h6 : w.length ≤ 6
        · rw [← hw60 (by omega), Bool.and_false]
        · rw [decide_eq_false h6, Bool.and_false, Bool.false_and]
      | _ => rfl
    | true =>
      obtain ⟨w, rfl⟩ := hb1 rfl
      have hl1000 : w.length ≤ 1000 := by cases hTx with | str => assumption
      have hz := hb2 w rfl
      walk_at "go"
      refine g_lenS (by simp only [sizeLine]; omega) ?_
      walk_at "go"
      cases e1 : decide ((1 : Int) ≤ (w.length : Int)) with
      | false =>
        refine g_kChain (fun h => by cases h) (fun _ => ?_)
        walk_at "go"
        have := of_decide_eq_false e1
        refine bad ?_
        show (decide (1 ≤ w.length) && _ && _) = false
        rw [decide_eq_false (by omega)]; rfl
      | true =>
        refine g_kChain (fun _ => ?_) (fun h => by cases h)
        walk_at "go"
        cases e6 : decide ((w.length : Int) ≤ (6 : Int)) with
        | false =>
          walk_at "go"
          have := of_decide_eq_false e6
          refine bad ?_
          show (_ && decide (w.length ≤ 6) && _) = false
          rw [show decide (w.length ≤ 6) = false from decide_eq_false (by omega), Bool.and_false, Bool.false_and]
        | true =>
          have h1 := of_decide_eq_true e1
          have h6 := of_decide_eq_true e6
          have good : wdB (zs tg) (.str w) = true := by
            show (decide (1 ≤ w.length) && decide (w.length ≤ 6) && _) = true
            rw [decide_eq_true (by omega), decide_eq_true (by omega), ← hz (by omega)]; rfl
          obtain ⟨xs, hxs, _⟩ := wd_strs hal
          walk_at "go"
          refine g_cutTakeT ?_
          rw [hxs]
          refine g_inT ?_
          have htk : (us.map sOf).take i = xs := by rw [← List.map_take, hxs, sOf_strs]
          have hat : (us.map sOf)[i]? = some w := by rw [List.getElem?_map, hx]; rfl
          refine g_iteD (fun hin => ?_) (fun hin => ?_)
          · walk_at "go"
            have hno := nodup_sub hat (by rw [htk]; exact hin)
            rw [decide_eq_false hno, Bool.and_false] at k
            exact k
          · walk_at "go"
            exact ⟨rfl, all_take hal hx good, nodup_take hnd hat (by rw [htk]; exact hin), _, _, rfl⟩
  obtain ⟨rfl, hal, hnd, x2, x3, rfl⟩ := hw
  rw [enumD_len, List.take_length] at hal
  rw [enumD_len, List.take_of_length_le (by rw [List.length_map]; exact Nat.le_refl _)] at hnd
  rw [hal, decide_eq_true hnd] at k
  walk_at "go"
  exact k
end
end A_k43
namespace A_k43
open PySem L2 AL
theorem eqD_str {d : D} (h : Tq 2 d) (z : Str) : EqD 20 d (.str z) (eStr z d) := by
  cases h with
  | non => exact .flat rfl
  | bl => exact .flat rfl
  | int => exact .flat rfl
  | str => exact .flat rfl
  | lst => exact .lstF rfl
  | tup => exact .tupF rfl
theorem strExt {a b : Str} (h : a.cps.toList = b.cps.toList) : a = b := by
  cases a; cases b
  exact congrArg Str.mk (Array.toList_inj.mp h)
theorem cnt_strs (x : Str) : ∀ xs : List Str, (strsL xs).countP (eStr x) = xs.count x
  | [] => rfl
  | y :: xs => by
    show (D.str y :: strsL xs).countP (eStr x) = _
    rw [List.countP_cons, cnt_strs x xs, List.count_cons]
    by_cases h : y = x
    · subst h; simp [eStr]
    · have : (y == x) = false := beq_eq_false_iff_ne.mpr h
      simp [eStr, h, this]
section
variable {C : AH} {P : D → AH → Prop} {tg : List Str}
theorem fil_signs (z : List Nat) (l : List Nat) : ((l.map fun c => D.str ⟨#[c]⟩).filter fun d => match d with | .str x => !decide ((x.cps.toList.getD 0 0) ∈ z) | _ => true).isEmpty = l.all fun c => decide (c ∈ z) := by
  induction l with
  | nil => rfl
  | cons c l ih =>
    rw [List.all_cons, ← ih, List.map_cons]
    by_cases h : c ∈ z
    · rw [List.filter_cons_of_neg (by simp [h]), decide_eq_true h, Bool.true_and]
    · rw [List.filter_cons_of_pos (by simp [h]), decide_eq_false h]
      rfl
/-- no one of the first n begins with this one, but itself -/
def noneB (xs : List Str) (at' n : Nat) : Bool := (List.range n).all fun j => decide (at' = j) || !bg (xs.getD j "") (xs.getD at' "")
theorem noneB_succ (xs : List Str) (a n : Nat) : noneB xs a (n + 1) = (noneB xs a n && (decide (a = n) || !bg (xs.getD n "") (xs.getD a ""))) := by
  unfold noneB
  rw [List.range_succ, List.all_append]
  simp
theorem getD_at {xs : List Str} {i : Nat} {x : Str} (e : xs[i]? = some x) : xs.getD i "" = x := by simp [List.getD, e]
theorem apart_eq (xs : List Str) : apartL xs = (List.range xs.length).all fun i => noneB xs i xs.length := rfl
theorem wkP_inv {us : List D} (h : wkP us = true) : ∃ a b, us = [.int a, b] := by
  match us, h with
  | [.int a, b], _ => exact ⟨a, b, rfl⟩
theorem law_is_part_ok (ht : Tng tg) {d : D} {last : Bool} (h : Tq 3 d) (k : P (.bl (partB (zs tg) d && (last || apartB d))) C) : s_law_is_part [.tup (strsL tg), d, .bl last] C P := by
  unfold s_law_is_part a_law_is_part
  walk_at "go"
  refine g_ifJ (fun st C' => C' = C ∧ st = [some (.tup (strsL tg)), some d, some (.bl last), none, none, none, none, none, none] ∧ ∃ us, d = .tup us ∧ us.length ≤ 12) (fun N hN => ?_) (fun st C' hw => ?_)
  · refine g_ifS ?_
    walk_at "go"
    refine g_kTupD h ?_
    cases e : isTupD d with
    | false =>
      walk_at "go"
      rw [part_not e] at k
      exact k
    | true =>
      obtain ⟨us, rfl⟩ := isTup_inv e
      walk_at "go"
      refine g_iteD (fun hl => ?_) (fun hl => ?_)
      · walk_at "go"
        have : partB (zs tg) (.tup us) = false := by
          show (decide (us.length ≤ 12) && _ && _) = false
          rw [decide_eq_false (by omega)]
          rfl
        rw [this] at k
        exact k
      · walk_at "go"
        exact hN _ _ ⟨rfl, rfl, us, rfl, by omega⟩
  obtain ⟨rfl, rfl, us, rfl, hl⟩ := hw
  have hus : ∀ x ∈ us, Tq 2 x := by cases h with | tup _ h2 => exact h2
  have hk : partB (zs tg) (.tup us) = (us.all (wdB (zs tg)) && decide (us.map sOf).Nodup) := by
    show (decide (us.length ≤ 12) && _ && _) = _
    rw [decide_eq_true hl, Bool.true_and]
  have nope : (us.all (wdB (zs tg)) = true → ¬ (us.map sOf).Nodup) → P (.bl false) C' := fun hn => by
    rw [hk] at k
    cases e : us.all (wdB (zs tg)) with
    | false => rw [e, Bool.false_and, Bool.false_and] at k; exact k
    | true => rw [e, decide_eq_false (hn e), Bool.and_false, Bool.false_and] at k; exact k
  walk_at "go"
  refine joinT_ok ht ?_
  walk_at "go"
  refine g_kForL (fun i st C2 => C2 = C' ∧ (us.take i).all (wdB (zs tg)) = true ∧ (∀ x ∈ us.take i, us.countP (eStr (sOf x)) ≤ 1) ∧ ∃ x4 x7, st = [some (.tup (strsL tg)), some (.tup us), some (.bl last), some (.str (Txt.join "" tg)), x4, none, none, x7, none]) ⟨rfl, rfl, by simp, none, none, rfl⟩ (fun i x st C2 hi hw => ?_) (fun st C2 hw => ?_)
  · obtain ⟨rfl, hal, hcn, x4, x7, rfl⟩ := hw
    have hm := List.mem_of_getElem? hi
    have hTx := hus x hm
    have bad : wdB (zs tg) x = false → P (.bl false) C2 := fun e => nope fun h2 => by rw [all_no hm e] at h2; cases h2
    walk_at "go"
    refine g_ifJ (fun st C3 => C3 = C2 ∧ st = [some (.tup (strsL tg)), some (.tup us), some (.bl last), some (.str (Txt.join "" tg)), some x, none, none, x7, none] ∧ ∃ w, x = .str w ∧ 1 ≤ w.length ∧ w.length ≤ 6 ∧ us.countP (eStr w) ≤ 1) (fun N hN => ?_) (fun st C3 hw => ?_)
    · refine g_ifS ?_
      walk_at "go"
      refine g_kStrD hTx ?_
      cases e : isStrD x with
      | false =>
        walk_at "go"
        exact bad (by cases x <;> first | rfl | cases e)
      | true =>
        obtain ⟨w, rfl⟩ := isStr_inv e
        have hl1000 : w.length ≤ 1000 := by cases hTx with | str => assumption
        walk_at "go"
        refine g_lenS (by simp only [sizeLine]; omega) ?_
        walk_at "go"
        cases e1 : decide ((1 : Int) ≤ (w.length : Int)) with
        | false =>
          refine g_kChain (fun h => by cases h) (fun _ => ?_)
          walk_at "go"
          have := of_decide_eq_false e1
          refine bad ?_
          show (decide (1 ≤ w.length) && _ && _) = false
          rw [decide_eq_false (by omega)]; rfl
        | true =>
          refine g_kChain (fun _ => ?_) (fun h => by cases h)
          walk_at "go"
          cases e6 : decide ((w.length : Int) ≤ (6 : Int)) with
          | false =>
            walk_at "go"
            have := of_decide_eq_false e6
            refine bad ?_
            show (_ && decide (w.length ≤ 6) && _) = false
            rw [show decide (w.length ≤ 6) = false from decide_eq_false (by omega), Bool.and_false, Bool.false_and]
          | true =>
            have h1 := of_decide_eq_true e1
            have h6 := of_decide_eq_true e6
            walk_at "go"
            have hwk : wkP us = false := by
              cases e : wkP us with
              | false => rfl
              | true =>
                obtain ⟨a, b, rfl⟩ := wkP_inv e
                cases i with
                | zero => cases hi
                | succ i => rw [List.take_succ_cons, List.all_cons] at hal; cases hal
            refine ⟨by show (!wkP us) = true; rw [hwk]; rfl, ?_⟩
            walk_at "go"
            refine ⟨fun d hd => eqD_str (hus d hd) w, ?_⟩
            walk_at "go"
            refine g_iteD (fun hc => ?_) (fun hc => ?_)
            · walk_at "go"
              refine nope fun h2 hnd => ?_
              obtain ⟨xs, hxs, _⟩ := wd_strs h2
              rw [hxs, sOf_strs] at hnd
              rw [hxs, cnt_strs] at hc
              have := List.nodup_iff_count.mp hnd w
              omega
            · walk_at "go"
              exact hN _ _ ⟨rfl, rfl, w, rfl, by omega, by omega, by omega⟩
    obtain ⟨rfl, rfl, w, rfl, h1, h6, hc1⟩ := hw
    refine g_ifS ?_
    walk_at "go"
    have hsl : (AL.signs w).length = w.length := by unfold AL.signs; rw [List.length_map, AL.len_toList]
    refine g_kLcFilter (fun d => match d with | .str x => !decide ((x.cps.toList.getD 0 0) ∈ zs tg) | _ => true) id (by rw [hsl]; simp only [sizeLine]; omega) (fun d hd R hR => ?_) (fun d hd hp R hR => ?_) ?_
    · obtain ⟨c, _, rfl⟩ := List.mem_map.mp hd
      walk_at "go"
      refine g_ninS ?_
      rw [in_one]
      walk_at "go"
      exact hR
    · walk_at "go"
      exact hR
    rw [List.map_id]
    walk_at "go"
    rw [show (AL.signs w) = w.cps.toList.map (fun c => D.str ⟨#[c]⟩) from rfl, fil_signs]
    cases e : w.cps.toList.all fun c => decide (c ∈ zs tg) with
    | false =>
      walk_at "go"
      exact bad (by show (_ && _ && w.cps.toList.all _) = false; rw [e, Bool.and_false])
    | true =>
      walk_at "go"
      refine ⟨rfl, all_take hal hi ?_, fun y hy => ?_, _, _, rfl⟩
      · show (decide (1 ≤ w.length) && decide (w.length ≤ 6) && w.cps.toList.all _) = true
        rw [e, decide_eq_true h1, decide_eq_true h6]; rfl
      · rw [List.take_add_one, hi] at hy
        rcases List.mem_append.mp hy with q | q
        · exact hcn y q
        · have : y = .str w := by simpa using q
          rw [this]; exact hc1
  obtain ⟨rfl, hal, hcn, x4, x7, rfl⟩ := hw
  rw [List.take_length] at hal hcn
  obtain ⟨xs, hxs, hxw⟩ := wd_strs hal
  have hnd : (us.map sOf).Nodup := by
    rw [hxs, sOf_strs, List.nodup_iff_count]
    intro a
    by_cases ha : a ∈ xs
    · have := hcn (.str a) (by rw [hxs]; exact List.mem_map.mpr ⟨a, ha, rfl⟩)
      rw [hxs, show sOf (.str a) = a from rfl, cnt_strs] at this
      exact this
    · rw [List.count_eq_zero_of_not_mem ha]; omega
  rw [hk, hal, decide_eq_true hnd, show apartB (.tup us) = apartL xs by show apartL (us.map sOf) = _; rw [hxs, sOf_strs]] at k
  subst hxs
  have hxl : (strsL xs).length = xs.length := List.length_map ..
  walk_at "go"
  refine g_ifJ (fun st C3 => C3 = C2 ∧ last = false ∧ st = [some (.tup (strsL tg)), some (.tup (strsL xs)), some (.bl last), some (.str (Txt.join "" tg)), x4, none, none, x7, none]) (fun N hN => ?_) (fun st C3 hw => ?_)
  · refine g_ifS ?_
    walk_at "go"
    refine g_ite (fun hb => ?_) (fun hb => ?_)
    · walk_at "go"
      rw [hb] at k
      exact k
    · walk_at "go"
      exact hN _ _ ⟨rfl, hb, rfl⟩
  obtain ⟨rfl, hlast, rfl⟩ := hw
  rw [hlast, apart_eq] at k
  walk_at "go"
  refine g_ieG ?_
  walk_at "go"
  refine g_kIEG (ds := strsL xs) (fun _ => rfl) ?_
  refine g_kFor (fun i st C4 => C4 = C3 ∧ ((List.range i).all fun i => noneB xs i xs.length) = true ∧ ∃ x4 x5 x6 x8, st = [some (.tup (strsL tg)), some (.tup (strsL xs)), some (.bl last), some (.str (Txt.join "" tg)), x4, x5, x6, x7, x8]) ⟨rfl, rfl, _, _, _, _, rfl⟩ (fun i d st C4 hi hw => ?_) (fun st C4 hw => ?_)
  · obtain ⟨rfl, hsofar, x4, x5, x6, x8, rfl⟩ := hw
    obtain ⟨x, hx, rfl⟩ := enumD_inv hi
    unfold strsL at hx
    rw [List.getElem?_map] at hx
    cases e : xs[i]? with
    | none => rw [e] at hx; cases hx
    | some one =>
      rw [e] at hx
      cases hx
      have hil := (List.getElem?_eq_some_iff.mp e).1
      have hone := hxw one (List.mem_of_getElem? e)
      have h6 := hone.six
      walk_at "go"
      refine g_ifS ?_
      walk_at "go"
      refine g_ieG ?_
      walk_at "go"
      refine g_kIEG (ds := strsL xs) (fun _ => rfl) ?_
      refine g_kLc (fun j acc C9 => C9 = C4 ∧ acc.isEmpty = noneB xs i j) (by rw [enumD_len, hxl]; simp only [sizeLine]; omega) ⟨rfl, rfl⟩ (fun j d acc C9 hj hw => ?_) (fun acc C9 hw => ?_)
      · obtain ⟨rfl, hacc⟩ := hw
        obtain ⟨x, hx, rfl⟩ := enumD_inv hj
        unfold strsL at hx
        rw [List.getElem?_map] at hx
        cases e2 : xs[j]? with
        | none => rw [e2] at hx; cases hx
        | some w =>
          rw [e2] at hx
          cases hx
          have hw6 := (hxw w (List.mem_of_getElem? e2)).six
          have hno := noneB_succ xs i j
          rw [getD_at e, getD_at e2] at hno
          walk_at "go"
          by_cases hij : j = i
          · rw [show (!decide (((j : Nat) : Int) = (i : Int))) = false by simp [hij]]
            walk_at "go"
            exact ⟨rfl, by rw [hno, decide_eq_true hij.symm, Bool.true_or, Bool.and_true]; exact hacc⟩
          · rw [show (!decide (((j : Nat) : Int) = (i : Int))) = true by rw [decide_eq_false (by omega)]; rfl]
            walk_at "go"
            refine g_lenS (by simp only [sizeLine]; omega) ?_
            walk_at "go"
            refine g_cutSt (by omega) ?_
            walk_at "go"
            have hbg : decide (cutS w none (some (one.length : Int)) = one) = bg w one := by
              unfold bg
              refine decide_eq_decide.mpr ⟨fun q => ?_, fun q => strExt ?_⟩
              · rw [← cutS_take, q]
              · rw [cutS_take]; exact q
            rw [hbg]
            rw [decide_eq_false (fun q => hij q.symm), Bool.false_or] at hno
            refine g_ite (fun hb => ?_) (fun hb => ?_)
            · walk_at "go"
              exact ⟨rfl, by rw [hno, hb]; simp⟩
            · exact ⟨rfl, by rw [hno, hb]; simpa using hacc⟩
      · obtain ⟨rfl, hacc⟩ := hw
        rw [enumD_len, hxl] at hacc
        walk_at "go"
        rw [hacc]
        cases en : noneB xs i xs.length with
        | false =>
          walk_at "go"
          have : ((List.range xs.length).all fun i => noneB xs i xs.length) = false := all_no (List.mem_range.mpr hil) en
          rw [this] at k
          exact k
        | true =>
          walk_at "go"
          exact ⟨rfl, by rw [List.range_succ, List.all_append, hsofar]; simp [en], _, _, _, _, rfl⟩
  · obtain ⟨rfl, hsofar, x4, x5, x6, x8, rfl⟩ := hw
    rw [enumD_len, hxl] at hsofar
    rw [hsofar] at k
    walk_at "go"
    exact k
theorem begins_ok {xs : List Str} (hx6 : ∀ x ∈ xs, x.length ≤ 6) (k : P (.bl (!apartL xs)) C) : s_begins_another [partD xs] C P := by
  unfold s_begins_another a_begins_another partD
  have hxl : (strsL xs).length = xs.length := List.length_map ..
  rw [apart_eq] at k
  walk_at "go"
  refine g_ieG ?_
  walk_at "go"
  refine g_kIEG (ds := strsL xs) (fun _ => rfl) ?_
  refine g_kFor (fun i st C' => C' = C ∧ ((List.range i).all fun i => noneB xs i xs.length) = true ∧ ∃ x1 x2 x3 x4 : Option D, st = [some (.tup (strsL xs)), x1, x2, x3, x4]) ⟨rfl, rfl, none, none, none, none, rfl⟩ (fun i d st C' hi hw => ?_) (fun st C' hw => ?_)
  · obtain ⟨rfl, hsofar, x1, x2, x3, x4, rfl⟩ := hw
    obtain ⟨x, hx, rfl⟩ := enumD_inv hi
    unfold strsL at hx
    rw [List.getElem?_map] at hx
    cases e : xs[i]? with
    | none => rw [e] at hx; cases hx
    | some one =>
      rw [e] at hx
      cases hx
      have hil := (List.getElem?_eq_some_iff.mp e).1
      walk_at "go"
      refine g_ieG ?_
      walk_at "go"
      refine g_kIEG (ds := strsL xs) (fun _ => rfl) ?_
      refine g_kFor (fun j st C2 => C2 = C' ∧ noneB xs i j = true ∧ ∃ x3 x4 : Option D, st = [some (.tup (strsL xs)), some (.int i), some (.str one), x3, x4]) ⟨rfl, rfl, _, _, rfl⟩ (fun j d st C2 hj hw => ?_) (fun st C2 hw => ?_)
      · obtain ⟨rfl, hnj, x3, x4, rfl⟩ := hw
        obtain ⟨x, hx, rfl⟩ := enumD_inv hj
        unfold strsL at hx
        rw [List.getElem?_map] at hx
        cases e2 : xs[j]? with
        | none => rw [e2] at hx; cases hx
        | some w =>
          rw [e2] at hx
          cases hx
          have hjl := (List.getElem?_eq_some_iff.mp e2).1
          have hno := noneB_succ xs i j
          rw [getD_at e, getD_at e2, hnj, Bool.true_and] at hno
          walk_at "go"
          refine g_ifS ?_
          walk_at "go"
          by_cases hij : i = j
          · rw [show (!decide (((i : Nat) : Int) = (j : Int))) = false by simp [hij]]
            walk_at "go"
            exact ⟨rfl, by rw [hno, decide_eq_true hij]; rfl, _, _, rfl⟩
          · rw [show (!decide (((i : Nat) : Int) = (j : Int))) = true by rw [decide_eq_false (by omega)]; rfl]
            walk_at "go"
            refine g_starts ?_
            walk_at "go"
            rw [decide_eq_false hij, Bool.false_or] at hno
            refine g_ite (fun hb => ?_) (fun hb => ?_)
            · walk_at "go"
              have hb : bg w one = true := hb
              have h1 : noneB xs i xs.length = false := by
                unfold noneB
                refine all_no (List.mem_range.mpr hjl) ?_
                rw [getD_at e, getD_at e2, hb, decide_eq_false hij]; rfl
              have : ((List.range xs.length).all fun i => noneB xs i xs.length) = false := all_no (List.mem_range.mpr hil) h1
              rw [this] at k
              exact k
            · walk_at "go"
              have hb : bg w one = false := hb
              exact ⟨rfl, by rw [hno, hb]; rfl, _, _, rfl⟩
      · obtain ⟨rfl, hnj, x3, x4, rfl⟩ := hw
        rw [enumD_len, hxl] at hnj
        exact ⟨rfl, by rw [List.range_succ, List.all_append, hsofar]; simp [hnj], _, _, _, _, rfl⟩
  · obtain ⟨rfl, hsofar, x1, x2, x3, x4, rfl⟩ := hw
    rw [enumD_len, hxl] at hsofar
    rw [hsofar] at k
    walk_at "go"
    exact k
end
end A_k43
namespace A_k43
open PySem L2 AL
theorem cut_most (us : List D) : cutD us none (some (-1)) = us.take (us.length - 1) := by
  have e : HT.sIx us.length us.length (some (-1)) = us.length - 1 := by
    unfold HT.sIx
    dsimp only
    split <;> omega
  unfold cutD
  rw [e, show HT.sIx us.length 0 none = 0 from rfl, List.drop_zero, Nat.sub_zero]
theorem part_inv {z : List Nat} {d : D} (h : partB z d = true) : ∃ xs : List Str, d = partD xs ∧ ∀ x ∈ xs, Wrd z x := by
  cases d with
  | tup ws =>
    simp only [partB, Bool.and_eq_true] at h
    obtain ⟨xs, rfl, hx⟩ := wd_strs h.1.2
    exact ⟨xs, rfl, hx⟩
  | _ => cases h
theorem apart_part (xs : List Str) : apartB (partD xs) = apartL xs := by
  show apartL ((strsL xs).map sOf) = _
  rw [sOf_strs]
theorem step_not {z : List Nat} {d : D} (h : isTupD d = false) : stepB z d = false := by cases d <;> first | rfl | cases h
theorem plan_not {z : List Nat} {d : D} (h : isTupD d = false) : planB z d = false := by cases d <;> first | rfl | cases h
theorem any_not (l : List Bool) : (!l.any id) = l.all (fun b => !b) := by
  induction l with
  | nil => rfl
  | cons b l ih => rw [List.any_cons, List.all_cons, ← ih]; cases b <;> simp
section
variable {C : AH} {P : D → AH → Prop} {tg : List Str}
theorem is_step_ok (ht : Tng tg) {n : Nat} {d : D} (h : Tq n d) (k : P (.bl (stepB (zs tg) d)) C) : s_is_step [.tup (strsL tg), d] C P := by
  unfold s_is_step a_is_step
  walk_at "go"
  refine g_ifJ (fun st C' => C' = C ∧ st = [some (.tup (strsL tg)), some d, none] ∧ ∃ us, d = .tup us ∧ 1 ≤ us.length ∧ us.length ≤ 5) (fun N hN => ?_) (fun st C' hw => ?_)
  · refine g_ifS ?_
    walk_at "go"
    refine g_kTupD h ?_
    cases e : isTupD d with
    | false =>
      walk_at "go"
      rw [step_not e] at k
      exact k
    | true =>
      obtain ⟨us, rfl⟩ := isTup_inv e
      walk_at "go"
      cases e1 : decide ((1 : Int) ≤ (us.length : Int)) with
      | false =>
        refine g_kChain (fun h => by cases h) (fun _ => ?_)
        walk_at "go"
        have := of_decide_eq_false e1
        rw [show stepB (zs tg) (.tup us) = false by show (decide (1 ≤ us.length) && _ && _ && _) = false; rw [decide_eq_false (by omega)]; rfl] at k
        exact k
      | true =>
        refine g_kChain (fun _ => ?_) (fun h => by cases h)
        walk_at "go"
        cases e5 : decide ((us.length : Int) ≤ (5 : Int)) with
        | false =>
          walk_at "go"
          have := of_decide_eq_false e5
          rw [show stepB (zs tg) (.tup us) = false by show (_ && decide (us.length ≤ 5) && _ && _) = false; rw [show decide (us.length ≤ 5) = false from decide_eq_false (by omega), Bool.and_false]; rfl] at k
          exact k
        | true =>
          walk_at "go"
          have h1 := of_decide_eq_true e1
          have h5 := of_decide_eq_true e5
          exact hN _ _ ⟨rfl, rfl, us, rfl, by omega, by omega⟩
  obtain ⟨rfl, rfl, us, rfl, hl1, hl5⟩ := hw
  obtain ⟨hl100, hus⟩ := tup_in h
  have hk : stepB (zs tg) (.tup us) = (us.all (partB (zs tg)) && (us.take (us.length - 1)).all apartB) := by
    show (decide (1 ≤ us.length) && decide (us.length ≤ 5) && _ && _) = _
    rw [decide_eq_true hl1, decide_eq_true hl5]
    rfl
  rw [hk] at k
  walk_at "go"
  refine g_kForL (fun i st C2 => C2 = C' ∧ (us.take i).all (partB (zs tg)) = true ∧ ∃ x2, st = [some (.tup (strsL tg)), some (.tup us), x2]) ⟨rfl, rfl, none, rfl⟩ (fun i x st C2 hi hw => ?_) (fun st C2 hw => ?_)
  · obtain ⟨rfl, hal, x2, rfl⟩ := hw
    have hm := List.mem_of_getElem? hi
    walk_at "go"
    refine g_ifS ?_
    walk_at "go"
    refine is_part_ok ht (hus x hm) ?_
    cases e : partB (zs tg) x with
    | false =>
      walk_at "go"
      rw [all_no hm e] at k
      exact k
    | true =>
      walk_at "go"
      exact ⟨rfl, all_take hal hi e, _, rfl⟩
  obtain ⟨rfl, hal, x2, rfl⟩ := hw
  rw [List.take_length] at hal
  rw [hal, Bool.true_and] at k
  walk_at "go"
  refine g_cutT ?_
  rw [cut_most]
  walk_at "go"
  refine g_kLc (fun i acc C9 => C9 = C2 ∧ acc = ((us.take (us.length - 1)).take i).map (fun d => D.bl (!apartB d))) (by rw [List.length_take]; simp only [sizeLine]; omega) ⟨rfl, rfl⟩ (fun i d acc C9 hi hw => ?_) (fun acc C9 hw => ?_)
  · obtain ⟨rfl, rfl⟩ := hw
    have hm : d ∈ us := List.mem_of_mem_take (List.mem_of_getElem? hi)
    obtain ⟨xs, rfl, hx⟩ := part_inv (List.all_eq_true.mp hal _ hm)
    walk_at "go"
    refine begins_ok (fun x hx2 => (hx x hx2).six) ?_
    refine ⟨rfl, ?_⟩
    rw [List.take_add_one, hi, List.map_append, ← apart_part]
    rfl
  · obtain ⟨rfl, rfl⟩ := hw
    rw [List.take_length]
    walk_at "go"
    refine g_any (blsD_mapS _ _) ?_
    walk_at "go"
    rw [any_not, List.all_map]
    have : ((fun b => !b) ∘ fun c => !apartB c) = apartB := by funext d; simp
    rw [this]
    exact k
theorem is_plan_ok (ht : Tng tg) {n : Nat} {d : D} (h : Tq n d) (k : P (.bl (planB (zs tg) d)) C) : s_is_plan [.tup (strsL tg), d] C P := by
  unfold s_is_plan a_is_plan
  walk_at "go"
  refine g_ifJ (fun st C' => C' = C ∧ st = [some (.tup (strsL tg)), some d, none] ∧ ∃ us, d = .tup us ∧ us.length ≤ 3) (fun N hN => ?_) (fun st C' hw => ?_)
  · refine g_ifS ?_
    walk_at "go"
    refine g_kTupD h ?_
    cases e : isTupD d with
    | false =>
      walk_at "go"
      rw [plan_not e] at k
      exact k
    | true =>
      obtain ⟨us, rfl⟩ := isTup_inv e
      walk_at "go"
      refine g_iteD (fun hl => ?_) (fun hl => ?_)
      · walk_at "go"
        rw [show planB (zs tg) (.tup us) = false by show (decide (us.length ≤ 3) && _) = false; rw [decide_eq_false (by omega)]; rfl] at k
        exact k
      · walk_at "go"
        exact hN _ _ ⟨rfl, rfl, us, rfl, by omega⟩
  obtain ⟨rfl, rfl, us, rfl, hl3⟩ := hw
  obtain ⟨hl100, hus⟩ := tup_in h
  have hk : planB (zs tg) (.tup us) = us.all (stepB (zs tg)) := by
    show (decide (us.length ≤ 3) && _) = _
    rw [decide_eq_true hl3]
    rfl
  rw [hk] at k
  walk_at "go"
  refine g_kLcMap (fun d => .bl (stepB (zs tg) d)) (by simp only [sizeLine]; omega) (fun d hd R hR => ?_) ?_
  · walk_at "go"
    exact is_step_ok ht (hus d hd) hR
  walk_at "go"
  refine g_all (blsD_mapS _ _) ?_
  rw [List.all_map]
  exact k
theorem law_is_step_ok (ht : Tng tg) {d : D} (h : Tq 4 d) (k : P (.bl (stepB (zs tg) d)) C) : s_law_is_step [.tup (strsL tg), d] C P := by
  unfold s_law_is_step a_law_is_step
  walk_at "go"
  refine g_ifJ (fun st C' => C' = C ∧ st = [some (.tup (strsL tg)), some d, none, none] ∧ ∃ us, d = .tup us ∧ 1 ≤ us.length ∧ us.length ≤ 5) (fun N hN => ?_) (fun st C' hw => ?_)
  · refine g_ifS ?_
    walk_at "go"
    refine g_kTupD h ?_
    cases e : isTupD d with
    | false =>
      walk_at "go"
      rw [step_not e] at k
      exact k
    | true =>
      obtain ⟨us, rfl⟩ := isTup_inv e
      walk_at "go"
      cases e1 : decide ((1 : Int) ≤ (us.length : Int)) with
      | false =>
        refine g_kChain (fun h => by cases h) (fun _ => ?_)
        walk_at "go"
        have := of_decide_eq_false e1
        rw [show stepB (zs tg) (.tup us) = false by show (decide (1 ≤ us.length) && _ && _ && _) = false; rw [decide_eq_false (by omega)]; rfl] at k
        exact k
      | true =>
        refine g_kChain (fun _ => ?_) (fun h => by cases h)
        walk_at "go"
        cases e5 : decide ((us.length : Int) ≤ (5 : Int)) with
        | false =>
          walk_at "go"
          have := of_decide_eq_false e5
          rw [show stepB (zs tg) (.tup us) = false by show (_ && decide (us.length ≤ 5) && _ && _) = false; rw [show decide (us.length ≤ 5) = false from decide_eq_false (by omega), Bool.and_false]; rfl] at k
          exact k
        | true =>
          walk_at "go"
          have h1 := of_decide_eq_true e1
          have h5 := of_decide_eq_true e5
          exact hN _ _ ⟨rfl, rfl, us, rfl, by omega, by omega⟩
  obtain ⟨rfl, rfl, us, rfl, hl1, hl5⟩ := hw
  have hus : ∀ x ∈ us, Tq 3 x := by cases h with | tup _ h2 => exact h2
  have hk : stepB (zs tg) (.tup us) = (us.all (partB (zs tg)) && (us.take (us.length - 1)).all apartB) := by
    show (decide (1 ≤ us.length) && decide (us.length ≤ 5) && _ && _) = _
    rw [decide_eq_true hl1, decide_eq_true hl5]
    rfl
  rw [hk] at k
  walk_at "go"
  refine g_ieG ?_
  walk_at "go"
  refine g_kIEG (ds := us) (fun _ => rfl) ?_
  refine g_kFor (fun i st C2 => C2 = C' ∧ (us.take i).all (partB (zs tg)) = true ∧ ((us.take (us.length - 1)).take i).all apartB = true ∧ ∃ x2 x3, st = [some (.tup (strsL tg)), some (.tup us), x2, x3]) ⟨rfl, rfl, rfl, none, none, rfl⟩ (fun i d st C2 hi hw => ?_) (fun st C2 hw => ?_)
  · obtain ⟨rfl, hal, hap, x2, x3, rfl⟩ := hw
    obtain ⟨x, hx, rfl⟩ := enumD_inv hi
    have hm := List.mem_of_getElem? hx
    have hil := (List.getElem?_eq_some_iff.mp hx).1
    walk_at "go"
    refine g_ifS ?_
    walk_at "go"
    refine law_is_part_ok ht (hus x hm) ?_
    cases e : partB (zs tg) x with
    | false =>
      walk_at "go"
      rw [all_no hm e] at k
      exact k
    | true =>
      by_cases hlast : i = us.length - 1
      · rw [decide_eq_true (show (i : Int) = (us.length : Int) - 1 by omega)]
        walk_at "go"
        refine ⟨rfl, all_take hal hx e, ?_, _, _, rfl⟩
        have hl : (us.take (us.length - 1)).length ≤ i := by rw [List.length_take]; omega
        rw [List.take_of_length_le (by omega)]
        rw [List.take_of_length_le hl] at hap
        exact hap
      · rw [decide_eq_false (show ¬ (i : Int) = (us.length : Int) - 1 by omega)]
        have hx2 : (us.take (us.length - 1))[i]? = some x := by rw [List.getElem?_take, if_pos (by omega)]; exact hx
        cases ea : apartB x with
        | false =>
          walk_at "go"
          rw [all_no (List.mem_of_getElem? hx2) ea, Bool.and_false] at k
          exact k
        | true =>
          walk_at "go"
          exact ⟨rfl, all_take hal hx e, all_take hap hx2 ea, _, _, rfl⟩
  · obtain ⟨rfl, hal, hap, x2, x3, rfl⟩ := hw
    rw [enumD_len] at hal hap
    rw [List.take_length] at hal
    rw [List.take_of_length_le (by rw [List.length_take]; omega)] at hap
    rw [hal, hap] at k
    walk_at "go"
    exact k
theorem law_is_plan_ok (ht : Tng tg) {d : D} (h : Tq 5 d) (k : P (.bl (planB (zs tg) d)) C) : s_law_is_plan [.tup (strsL tg), d] C P := by
  unfold s_law_is_plan a_law_is_plan
  walk_at "go"
  refine g_ifJ (fun st C' => C' = C ∧ st = [some (.tup (strsL tg)), some d, none] ∧ ∃ us, d = .tup us ∧ us.length ≤ 3) (fun N hN => ?_) (fun st C' hw => ?_)
  · refine g_ifS ?_
    walk_at "go"
    refine g_kTupD h ?_
    cases e : isTupD d with
    | false =>
      walk_at "go"
      rw [plan_not e] at k
      exact k
    | true =>
      obtain ⟨us, rfl⟩ := isTup_inv e
      walk_at "go"
      refine g_iteD (fun hl => ?_) (fun hl => ?_)
      · walk_at "go"
        rw [show planB (zs tg) (.tup us) = false by show (decide (us.length ≤ 3) && _) = false; rw [decide_eq_false (by omega)]; rfl] at k
        exact k
      · walk_at "go"
        exact hN _ _ ⟨rfl, rfl, us, rfl, by omega⟩
  obtain ⟨rfl, rfl, us, rfl, hl3⟩ := hw
  have hus : ∀ x ∈ us, Tq 4 x := by cases h with | tup _ h2 => exact h2
  have hk : planB (zs tg) (.tup us) = us.all (stepB (zs tg)) := by
    show (decide (us.length ≤ 3) && _) = _
    rw [decide_eq_true hl3]
    rfl
  rw [hk] at k
  walk_at "go"
  refine g_kLcFilter (fun d => !stepB (zs tg) d) id (by simp only [sizeLine]; omega) (fun d hd R hR => ?_) (fun d hd hp R hR => ?_) ?_
  · walk_at "go"
    refine law_is_step_ok ht (hus d hd) ?_
    walk_at "go"
    exact hR
  · walk_at "go"
    exact hR
  rw [List.map_id]
  walk_at "go"
  have e : (us.filter fun d => !stepB (zs tg) d).isEmpty = us.all (stepB (zs tg)) := by
    clear hk k hus h hl3
    induction us with
    | nil => rfl
    | cons a l ih =>
      rw [List.filter_cons, List.all_cons, ← ih]
      cases stepB (zs tg) a <;> rfl
  rw [e]
  exact k
theorem asked_ok (ht : Tng tg) {d e : D} (h : Tq 4 d) (h2 : Tq 5 e) (k : P (.bl true) C) : s_law_asked [.tup (strsL tg), d, e] C P := by
  unfold s_law_asked a_law_asked
  walk_at "go"
  refine is_step_ok ht h ?_
  walk_at "go"
  refine is_plan_ok ht h2 ?_
  walk_at "go"
  refine g_ifF (fun K hK => by walk_at "go"; rw [show isT "bool" "bool" = true from rfl]; walk_at "go"; exact hK) ?_
  walk_at "go"
  refine law_is_step_ok ht h ?_
  walk_at "go"
  refine law_is_plan_ok ht h2 ?_
  walk_at "go"
  exact g_eqR 3 rfl (by decide) k
end
end A_k43
namespace A_k43
open PySem L2 AL
theorem sub_lenN : ∀ {l m : List Nat}, l.Nodup → (∀ x ∈ l, x ∈ m) → l.length ≤ m.length
  | [], m, _, _ => Nat.zero_le _
  | x :: l, m, hn, hs => by
    obtain ⟨hx, hn⟩ := List.nodup_cons.mp hn
    have h1 := hs x List.mem_cons_self
    have := sub_lenN (m := m.erase x) hn fun y hy => (List.mem_erase_of_ne (fun e => hx (by rw [← e]; exact hy))).mpr (hs y (List.mem_cons_of_mem _ hy))
    rw [List.length_erase_of_mem h1] at this
    have := List.length_pos_of_mem h1
    rw [List.length_cons]
    omega
def cand : Str := "azb0c1d2e3f4!"
theorem cand_eq : ("azb0c1d2e3f4!" : Str) = cand := rfl
theorem cand_ok : (decide cand.cps.toList.Nodup && decide (cand.cps.toList.length = 13) && cand.cps.toList.all fun c => decide (33 ≤ c) && decide (c < 128)) = true := by decide +kernel
def oddP (z : List Nat) : D → Bool
  | .str x => !decide ((x.cps.toList.getD 0 0) ∈ z)
  | _ => true
def odds (z : List Nat) : List Nat := cand.cps.toList.filter fun c => !decide (c ∈ z)
theorem odds_ne {tg : List Str} (ht : Tng tg) : odds (zs tg) ≠ [] := fun h => by
  have hk := cand_ok
  simp only [Bool.and_eq_true, decide_eq_true_eq] at hk
  have h2 : ∀ c ∈ cand.cps.toList, c ∈ zs tg := fun c hc => by
    have := List.filter_eq_nil_iff.mp h c hc
    simpa using this
  have := sub_lenN hk.1.1 h2
  have h3 : (zs tg).length = (Txt.join "" tg).length := AL.len_toList _
  have := ht.size
  omega
theorem odd_good {z : List Nat} {c : Nat} (h : c ∈ odds z) : 33 ≤ c ∧ c < 128 := by
  have hk := cand_ok
  simp only [Bool.and_eq_true, decide_eq_true_eq, List.all_eq_true] at hk
  exact hk.2 c (List.mem_filter.mp h).1
section
variable {C : AH} {P : D → AH → Prop} {tg : List Str}
theorem g_mulX {z : Str} {n : Nat} (h1 : n ≤ 1000000) (h2 : z.length * n ≤ 16000000) (k : ∀ t : Str, t.length = n * z.length → P (.str t) C) : aMulS (.str z) (.int n) C P := g_mulS h1 h2 (k _ (timesL_len z n))
theorem g_mulIX {z : Str} {n : Nat} (h1 : 2 ≤ n) (h2 : n ≤ 1000) (h3 : 1 ≤ z.length) (h4 : z.length ≤ 1000) (k : ∀ t : Str, t.length = n * z.length → P (.str t) C) : aMulSI (.int (n : Nat)) (.str z) C P :=
  ⟨by omega, by omega, h3, h4, by rw [Int.toNat_natCast]; exact k _ (timesL_len z n)⟩
theorem cut_le (x : Str) (lo hi : Option Int) : (cutS x lo hi).length ≤ x.length := by
  rw [← AL.len_toList, cutS_l, List.length_take, List.length_drop, AL.len_toList]
  omega
/-- the strange signs, as the comprehension leaves them -/
theorem odd_fil (z : List Nat) : ((AL.signs cand).filter (oddP z)).map id = (odds z).map fun c => D.str ⟨#[c]⟩ := by
  rw [List.map_id]
  unfold odds AL.signs
  rw [List.filter_map]
  rfl
theorem g_ixOdd {z : List Nat} (hne : odds z ≠ []) (k : ∀ c, c ∈ odds z → P (.str ⟨#[c]⟩) C) : aIx (.lst ((odds z).map fun c => D.str ⟨#[c]⟩)) (.int 0) C P := by
  cases e : odds z with
  | nil => exact absurd e hne
  | cons c l =>
    rw [e] at k
    exact g_ixL (i := ((0 : Nat) : Int)) (d := .str ⟨#[c]⟩) (atI_nat' rfl) (k c List.mem_cons_self)
theorem cand_sz : (AL.signs cand).length ≤ sizeLine := by
  have hk := cand_ok
  simp only [Bool.and_eq_true, decide_eq_true_eq] at hk
  unfold AL.signs
  rw [List.length_map, hk.1.2]
  simp only [sizeLine]
  omega
theorem words_ok {n : Nat} {p : Addr} {w : Str} (ht : Tng tg) (h1 : 1 ≤ w.length) (h6 : w.length ≤ 6) (hp : Pen (n + 1) C p) (k : ∀ us C', us.length ≤ 2 → (∀ d ∈ us, Tq 2 d) → Pen n C' p → Oth p C C' → P (.tup us) C') : s_law_words [.ce p, .tup (strsL tg), .str w] C P := by
  unfold s_law_words a_law_words
  rw [cand_eq]
  walk_at "go"
  refine g_ixO (i := 0) (by omega) (by omega) fun c _ => ?_
  have hone : (oneS c).length = 1 := rfl
  generalize oneS c = f at hone ⊢
  walk_at "go"
  refine g_kLcFilter (oddP (zs tg)) id cand_sz (fun d hd R hR => ?_) (fun d hd hp R hR => ?_) ?_
  · obtain ⟨c, _, rfl⟩ := List.mem_map.mp hd
    walk_at "go"
    refine joinT_ok ht ?_
    walk_at "go"
    refine g_ninS ?_
    rw [in_one]
    walk_at "go"
    exact hR
  · walk_at "go"
    exact hR
  rw [odd_fil]
  walk_at "go"
  refine g_ixOdd (odds_ne ht) fun b _ => ?_
  have hone2 : (⟨#[b]⟩ : Str).length = 1 := rfl
  generalize (⟨#[b]⟩ : Str) = g at hone2 ⊢
  walk_at "go"
  refine g_mulX (n := 7) (by omega) (by omega) fun t1 ht1 => ?_
  walk_at "go"
  refine g_addS (by simp only [sizeLine]; omega) ?_
  walk_at "go"
  refine g_cutSt (by omega) ?_
  walk_at "go"
  refine g_cutSt (by omega) ?_
  walk_at "go"
  refine g_addS (by have := cut_le w none (some 5); simp only [sizeLine]; omega) ?_
  walk_at "go"
  refine g_mulX (n := 6) (by omega) (by omega) fun t2 ht2 => ?_
  walk_at "go"
  have hnl : (Str.ofString "\n").length = 1 := by decide +kernel
  refine g_addS (by simp only [sizeLine]; omega) ?_
  walk_at "go"
  refine g_cutSt (by omega) ?_
  walk_at "go"
  refine g_cutSt (by omega) ?_
  walk_at "go"
  have a1 : (w ++ f).length ≤ 7 := by rw [app_len]; omega
  have a2 := cut_le w none (some 1)
  have a3 : (cutS w none (some 5) ++ g).length ≤ 7 := by rw [app_len]; have := cut_le w none (some 5); omega
  have a4 : (w ++ Str.ofString "\n").length ≤ 7 := by rw [app_len]; omega
  have a5 := cut_le w none (some 3)
  have a6 := cut_le w none (some 2)
  generalize (w ++ f) = v1 at a1 ⊢
  generalize (cutS w none (some 1)) = v2 at a2 ⊢
  generalize (cutS w none (some 5) ++ g) = v3 at a3 ⊢
  generalize (w ++ Str.ofString "\n") = v4 at a4 ⊢
  generalize (cutS w none (some 3)) = v5 at a5 ⊢
  generalize (cutS w none (some 2)) = v6 at a6 ⊢
  refine g_addL (by simp only [List.length_cons, List.length_nil, sizeLine]; omega) ?_
  walk_at "go"
  show s_law_draw [.ce p, .int ((15 : Nat) : Int)] _ _
  refine draw_ok (n := n) (m := 15) hp (by omega) (by omega) fun c j hc hj => ?_
  have hk := fun us h2 hq => k us _ h2 hq (pen_put (C := C) (p := p) hc) ((Oth.refl p C).pen (c := c))
  have s1 : ∀ {z : Str}, z.length ≤ 42 → ∀ d ∈ [D.str z], Tq 2 d := fun hz d hd => by
    rw [List.mem_singleton.mp hd]; exact .str _ (by omega)
  match j, hj with
  | 0, _ => exact g_ixL rfl (hk _ (by simp) (s1 (by omega)))
  | 1, _ => exact g_ixL rfl (hk _ (by simp) (s1 (by decide +kernel)))
  | 2, _ => exact g_ixL rfl (hk _ (by simp) (s1 (by omega)))
  | 3, _ => exact g_ixL rfl (hk _ (by simp) (s1 (by omega)))
  | 4, _ => exact g_ixL rfl (hk _ (by simp) (s1 (by omega)))
  | 5, _ => exact g_ixL rfl (hk _ (by simp) (s1 (by omega)))
  | 6, _ => exact g_ixL rfl (hk _ (by simp) fun d hd => by rw [List.mem_singleton.mp hd]; exact .non _)
  | 7, _ => exact g_ixL rfl (hk _ (by simp) fun d hd => by rw [List.mem_singleton.mp hd]; exact .int _ _)
  | 8, _ => exact g_ixL rfl (hk _ (by simp) fun d hd => by rw [List.mem_singleton.mp hd]; exact .bl _ _)
  | 9, _ => exact g_ixL rfl (hk _ (by simp) fun d hd => by rw [List.mem_singleton.mp hd]; exact .tup (by simp) fun d hd => by rw [List.mem_singleton.mp hd]; exact .str _ (by omega))
  | 10, _ => exact g_ixL rfl (hk _ (by simp) fun d hd => by rw [List.mem_singleton.mp hd]; exact .lst (by simp) fun d hd => by rw [List.mem_singleton.mp hd]; exact .str _ (by omega))
  | 11, _ => exact g_ixL rfl (hk _ (by simp) (s1 (by omega)))
  | 12, _ => exact g_ixL rfl (hk _ (by simp) (s1 (by omega)))
  | 13, _ => exact g_ixL rfl (hk _ (by simp) (s1 (by omega)))
  | 14, _ => exact g_ixL rfl (hk _ (by simp) fun d hd => by
      rcases List.mem_cons.mp hd with e | hd
      · rw [e]; exact .str _ (by omega)
      · rw [List.mem_singleton.mp hd]; exact .str _ (by omega))
end
end A_k43
namespace A_k43
open PySem L2 AL
section
variable {C : AH} {P : D → AH → Prop} {tg : List Str}
theorem g_ixTg {us : List D} {n : Nat} {d : D} (h1 : us[n]? = some d) (h : P d C) : aIx (.tup us) (.int (n : Int)) C P := g_ixT (atI_nat' h1) h
theorem g_rep {us : List D} {i : Int} (h1 : 1 ≤ i) (h2 : i ≤ 1000) (h3 : us.length ≤ 1000) (h : P (.tup (List.replicate i.toNat us).flatten) C) : aRepT (.tup us) (.int i) C P := ⟨h1, h2, h3, h⟩
theorem joined_len {ws : List Str} (h : ∀ w ∈ ws, w.length ≤ 6) (hl : ws.length ≤ 12) : (Txt.join "" ws).length ≤ 72 := by
  rw [join_len]
  have := sum_few (b := 6) (L := ws.map (·.length)) fun x hx => by
    obtain ⟨w, hw, rfl⟩ := List.mem_map.mp hx
    exact h w hw
  rw [List.length_map] at this
  omega
/-- a step whose words are small -/
structure Sml (s : List (List Str)) : Prop where
  one : 1 ≤ s.length
  few : s.length ≤ 5
  prt : ∀ ws ∈ s, ws.length ≤ 12 ∧ ∀ w ∈ ws, 1 ≤ w.length ∧ w.length ≤ 6
theorem Sml.tq {s : List (List Str)} (h : Sml s) : ∀ d ∈ s.map partD, Tq 2 d := fun d hd => by
  obtain ⟨ws, hw, rfl⟩ := List.mem_map.mp hd
  obtain ⟨h1, h2⟩ := h.prt ws hw
  refine .tup (n := 1) (by show (ws.map D.str).length ≤ 100; rw [List.length_map]; omega) fun x hx => ?_
  obtain ⟨w, hw, rfl⟩ := List.mem_map.mp hx
  exact .str _ (by have := (h2 w hw).2; omega)
theorem flat_mem {x : D} {us : List D} {n : Nat} (h : x ∈ (List.replicate n us).flatten) : x ∈ us := by
  obtain ⟨l, h1, h2⟩ := List.mem_flatten.mp h
  rw [List.mem_replicate.mp h1 |>.2] at h2
  exact h2
theorem flat_len (us : List D) (n : Nat) : (List.replicate n us).flatten.length = n * us.length := by
  induction n with
  | zero => simp
  | succ n ih => rw [List.replicate_succ, List.flatten_cons, List.length_append, ih, Nat.succ_mul, Nat.add_comm]
theorem otherwise_ok {n : Nat} {p : Addr} {s : List (List Str)} (ht : Tng tg) (hs : Sml s) (hp : Pen (n + 30) C p) (k : ∀ d C', Tq 4 d → Pen n C' p → Oth p C C' → P d C') : s_law_otherwise [.ce p, .tup (strsL tg), stepD s] C P := by
  have hs1 := hs.one
  have hs5 := hs.few
  have hsl : (s.map partD).length = s.length := List.length_map ..
  have hq := hs.tq
  unfold s_law_otherwise a_law_otherwise stepD
  walk_at "go"
  refine draw_ok (n := n + 29) (m := 8) hp (by omega) (by omega) fun c way hc hway => ?_
  have hP := pen_put (C := C) (p := p) hc
  have hO := (Oth.refl p C).pen (c := c)
  generalize put C p c = C1 at hP hO ⊢
  walk_at "go"
  rw [hsl]
  refine draw_ok (n := n + 28) hP (by omega) (by omega) fun c at' hc hat => ?_
  have hP := pen_put (C := C1) (p := p) hc
  have hO := hO.pen (c := c)
  generalize put C1 p c = C2 at hP hO ⊢
  walk_at "go"
  have hget : s[at']? = some s[at'] := List.getElem?_eq_getElem hat
  have hgetD : (s.map partD)[at']? = some (partD s[at']) := by rw [List.getElem?_map, hget]; rfl
  have hmem : s[at'] ∈ s := List.getElem_mem hat
  generalize s[at'] = ws at hgetD hmem
  obtain ⟨hw12, hw6⟩ := hs.prt ws hmem
  have hwl : (strsL ws).length = ws.length := List.length_map ..
  have hwq : ∀ d ∈ strsL ws, Tq 1 d := fun d hd => by
    obtain ⟨w, hw, rfl⟩ := List.mem_map.mp hd
    exact .str _ (by have := (hw6 w hw).2; omega)
  refine g_ixTg hgetD ?_
  rw [show partD ws = D.tup (strsL ws) from rfl]
  have fin : ∀ (d : D) (C4 : AH), Tq 3 d → Pen n C4 p → Oth p C C4 → P (.tup (((s.map partD).take at' ++ [d]) ++ (s.map partD).drop (at' + 1))) C4 := fun d C4 hd hP hO => by
    refine k _ _ (.tup (n := 3) ?_ fun x hx => ?_) hP hO
    · rw [List.length_append, List.length_append, List.length_take, List.length_drop, hsl, List.length_singleton]; omega
    · rcases List.mem_append.mp hx with h | h
      · rcases List.mem_append.mp h with h | h
        · exact (hq x (List.mem_of_mem_take h)).succ
        · rw [List.mem_singleton.mp h]; exact hd
      · exact (hq x (List.mem_of_mem_drop h)).succ
  walk_at "go"
  refine g_ifJ (fun st C' => ∃ (d : D) (x6 x7 x8 : Option D), Tq 3 d ∧ Pen n C' p ∧ Oth p C C' ∧ st = [some (.ce p), some (.tup (strsL tg)), some (.tup (s.map partD)), some (.int (way : Nat)), some (.int (at' : Nat)), some d, x6, x7, x8, none]) (fun N hN => ?_) (fun st C' hw => ?_)
  · refine g_ifS ?_
    walk_at "go"
    refine g_iteD (fun h4 => ?_) (fun h4 => ?_)
    · walk_at "go"
      refine text_ok (n := n + 10) (m := 4) ht (by omega) (by omega) (hP.less) fun t C3 ht1 ht4 _ hP3 hO3 => ?_
      have hO3 := hO.trans hO3
      walk_at "go"
      refine g_addT (by rw [hwl]; simp only [sizeLine, List.length_singleton]; omega) ?_
      obtain ⟨w, hw, hw1, hw6'⟩ : ∃ w : Str, (strsL ws ++ [D.str t])[0]? = some (.str w) ∧ 1 ≤ w.length ∧ w.length ≤ 6 := by
        cases ws with
        | nil => exact ⟨t, rfl, ht1, by omega⟩
        | cons a l => exact ⟨a, rfl, hw6 a List.mem_cons_self⟩
      refine g_ixTg (n := 0) hw ?_
      walk_at "go"
      rw [hwl, show ((ws.length : Nat) : Int) + 1 = ((ws.length + 1 : Nat) : Int) by omega]
      refine draw_ok (n := n + 9) hP3 (by omega) (by omega) fun c spot hc hsp => ?_
      have hP4 := pen_put (C := C3) (p := p) hc
      have hO4 := hO3.pen (c := c)
      generalize put C3 p c = C4 at hP4 hO4 ⊢
      walk_at "go"
      refine g_cutT ?_
      rw [cutD_take]
      walk_at "go"
      refine words_ok (n := n + 8) ht hw1 hw6' hP4 fun us C5 hus2 husq hP5 hO5 => ?_
      have hO5 := hO4.trans hO5
      refine g_addT (by rw [List.length_take, hwl]; simp only [sizeLine]; omega) ?_
      walk_at "go"
      refine g_cutT ?_
      rw [cutD_drop]
      refine g_addT (by rw [List.length_append, List.length_take, List.length_drop, hwl]; simp only [sizeLine]; omega) ?_
      walk_at "go"
      refine hN _ _ ⟨_, _, _, _, .tup (n := 2) ?_ fun x hx => ?_, hP5.less, hO5, rfl⟩
      · rw [List.length_append, List.length_append, List.length_take, List.length_drop, hwl]; omega
      · rcases List.mem_append.mp hx with h | h
        · rcases List.mem_append.mp h with h | h
          · exact (hwq x (List.mem_of_mem_take h)).succ
          · exact husq x h
        · exact (hwq x (List.mem_of_mem_drop h)).succ
    · walk_at "go"
      refine g_ifS ?_
      walk_at "go"
      refine g_iteD (fun h5 => ?_) (fun h5 => ?_)
      · walk_at "go"
        refine g_joinET (by have := joined_len (fun w hw => (hw6 w hw).2) hw12; rw [join_len] at this; omega) ?_
        have hjl := joined_len (fun w hw => (hw6 w hw).2) hw12
        generalize Txt.join "" ws = jn at hjl ⊢
        walk_at "go"
        refine g_cutT ?_
        rw [show ((1 : Int)) = ((1 : Nat) : Int) from rfl, cutD_take]
        walk_at "go"
        refine g_rep (by omega) (by omega) (by rw [List.length_take, hwl]; omega) ?_
        walk_at "go"
        unfold aDict0F
        walk_at "go"
        refine draw_ok (n := n + 27) (m := 6) hP (by omega) (by omega) fun c j hc hj => ?_
        have hk := fun d hd => hN _ _ ⟨d, none, none, none, hd, (pen_put (C := C2) (p := p) hc).less, hO.pen, rfl⟩
        match j, hj with
        | 0, _ => exact g_ixL rfl (hk _ (.lst (n := 2) (by rw [hwl]; omega) fun x hx => (hwq x hx).succ))
        | 1, _ => exact g_ixL rfl (hk _ (.str _ (by omega)))
        | 2, _ => exact g_ixL rfl (hk _ (.non _))
        | 3, _ => exact g_ixL rfl (hk _ (.tup (n := 2) (by rw [flat_len, List.length_take]; show 13 * _ ≤ 100; omega) fun x hx => (hwq x (List.mem_of_mem_take (flat_mem hx))).succ))
        | 4, _ => exact g_ixL rfl (hk _ (.int _ _))
        | 5, _ => exact g_ixL rfl (hk _ (.dk 0))
      walk_at "go"
      refine g_ifS ?_
      walk_at "go"
      refine g_iteD (fun h6 => ?_) (fun h6 => ?_)
      · walk_at "go"
        refine joinT_ok ht ?_
        have hz1 := ht.one
        have hz2 := ht.size
        generalize Txt.join "" tg = z at hz1 hz2 ⊢
        walk_at "go"
        refine draw_ok (n := n + 27) (m := 2) hP (by omega) (by omega) fun c b hc hb => ?_
        have hP3 := pen_put (C := C2) (p := p) hc
        have hO3 := hO.pen (c := c)
        generalize put C2 p c = C3 at hP3 hO3 ⊢
        walk_at "go"
        rw [show (12 : Int) + (b : Int) = ((12 + b : Nat) : Int) by omega]
        have hrl : (rangeD 0 ((12 + b : Nat) : Int).toNat).length = 12 + b := by rw [rangeD_len]; rfl
        refine g_kLc (fun i acc C9 => C9 = C3 ∧ acc.length = i ∧ ∀ d ∈ acc, Tq 2 d) (by rw [hrl]; simp only [sizeLine]; omega) ⟨rfl, rfl, by simp⟩ (fun i d acc C9 hi hw => ?_) (fun acc C9 hw => ?_)
        · obtain ⟨rfl, hal, haq⟩ := hw
          have hi2 : i < 12 + b := by have := (List.getElem?_eq_some_iff.mp hi).1; rw [hrl] at this; exact this
          rw [rangeD_get (by show i < ((12 + b : Nat) : Int).toNat; omega)] at hi
          cases hi
          rw [Int.zero_add]
          walk_at "go"
          refine g_mulIX (n := 3) (by omega) (by omega) hz1 (by omega) fun t ht3 => ?_
          walk_at "go"
          refine g_cutSt (by omega) ?_
          refine ⟨rfl, by rw [List.length_append, List.length_singleton, hal], fun d hd => ?_⟩
          rcases List.mem_append.mp hd with h | h
          · exact haq d h
          · rw [List.mem_singleton.mp h]
            refine .str _ (Nat.le_trans (cut_le _ _ _) ?_)
            omega
        · obtain ⟨rfl, hal, haq⟩ := hw
          rw [hrl] at hal
          walk_at "go"
          exact hN _ _ ⟨_, _, _, _, .tup (n := 2) (by omega) haq, hP3.less, hO3, rfl⟩
      walk_at "go"
      refine g_ifS ?_
      walk_at "go"
      refine g_iteD (fun h7 => ?_) (fun h7 => ?_)
      · walk_at "go"
        rw [hsl]
        refine g_rep (by omega) (by omega) (by simp) ?_
        refine g_addT (by rw [hsl, flat_len]; simp only [sizeLine, List.length_singleton]; omega) ?_
        walk_at "go"
        obtain ⟨w0, hw0⟩ : ∃ w0, s[0]? = some w0 := ⟨_, List.getElem?_eq_getElem hs1⟩
        refine g_ixTg (n := 0) (d := partD w0) (by rw [List.getElem?_map, hw0]; rfl) ?_
        have hw0q := hq (partD w0) (List.mem_map.mpr ⟨w0, List.mem_of_getElem? hw0, rfl⟩)
        walk_at "go"
        refine g_rep (by omega) (by omega) (by simp) ?_
        walk_at "go"
        refine draw_ok (n := n + 27) (m := 7) hP (by omega) (by omega) fun c j hc hj => ?_
        have hk := fun d hd => k d _ hd ((pen_put (C := C2) (p := p) hc).less) (hO.pen (c := c))
        have he : ∀ m : Nat, ∀ x ∈ (List.replicate m [D.tup []]).flatten, Tq 3 x := fun m x hx => by
          rw [List.mem_singleton.mp (flat_mem hx)]
          exact .tup (n := 2) (by simp) fun d hd => (nomatch hd)
        match j, hj with
        | 0, _ => exact g_ixL rfl (hk _ (.tup (n := 3) (by simp) fun d hd => (nomatch hd)))
        | 1, _ => exact g_ixL rfl (hk _ (.lst (n := 3) (by rw [hsl]; omega) fun x hx => (hq x hx).succ))
        | 2, _ => exact g_ixL rfl (hk _ (.tup (n := 3) (by rw [List.length_append, hsl, flat_len, List.length_singleton]; omega) fun x hx => by
            rcases List.mem_append.mp hx with h | h
            · exact (hq x h).succ
            · exact he _ x h))
        | 3, _ => exact g_ixL rfl (hk _ (hw0q.mono (by omega)))
        | 4, _ => exact g_ixL rfl (hk _ (.non _))
        | 5, _ => exact g_ixL rfl (hk _ (.str _ (by decide +kernel)))
        | 6, _ => exact g_ixL rfl (hk _ (.tup (n := 3) (by rw [flat_len]; decide) fun x hx => he _ x hx))
      · walk_at "go"
        refine g_cutT ?_
        rw [cutD_drop]
        walk_at "go"
        refine g_cutT ?_
        rw [cutD_take]
        refine g_addT (by rw [List.length_take, List.length_drop, hsl]; simp only [sizeLine]; omega) ?_
        refine k _ _ (.tup (n := 3) (by rw [List.length_append, List.length_take, List.length_drop, hsl]; omega) fun x hx => ?_) hP.less hO
        rcases List.mem_append.mp hx with h | h
        · exact (hq x (List.mem_of_mem_drop h)).succ
        · exact (hq x (List.mem_of_mem_take h)).succ
  obtain ⟨d, x6, x7, x8, hd, hP, hO, rfl⟩ := hw
  walk_at "go"
  refine g_cutT ?_
  rw [cutD_take]
  walk_at "go"
  refine g_addT (by rw [List.length_take, hsl]; simp only [sizeLine, List.length_singleton]; omega) ?_
  walk_at "go"
  refine g_cutT ?_
  rw [show ((at' : Nat) : Int) + 1 = ((at' + 1 : Nat) : Int) by omega, cutD_drop]
  refine g_addT (by rw [List.length_append, List.length_take, List.length_drop, hsl]; simp only [sizeLine, List.length_singleton]; omega) ?_
  exact fin d _ hd hP hO
end
end A_k43
namespace A_k43
open PySem L2 AL
theorem Stp.sml {z : List Nat} {s : List (List Str)} (h : Stp z s) : Sml s where
  one := h.one
  few := h.few
  prt ws hw := by
    obtain ⟨i, hi⟩ := List.getElem?_of_mem hw
    have := h.ok i ws hi
    exact ⟨this.few, fun w hw => ⟨(this.ok w hw).one, (this.ok w hw).six⟩⟩
theorem Sml.step {s : List (List Str)} (h : Sml s) : Tq 3 (stepD s) := .tup (n := 2) (by rw [List.length_map]; have := h.few; omega) h.tq
theorem pairs_apart {ws : List Str} (h : ws.Pairwise fun a b => bg a b = false ∧ bg b a = false) : apartL ws = true := by
  unfold apartL
  refine List.all_eq_true.mpr fun i hi => List.all_eq_true.mpr fun j hj => ?_
  have hi := List.mem_range.mp hi
  have hj := List.mem_range.mp hj
  rw [show ws.getD j "" = ws[j] by simp [List.getD, List.getElem?_eq_getElem hj], show ws.getD i "" = ws[i] by simp [List.getD, List.getElem?_eq_getElem hi]]
  have hp := List.pairwise_iff_getElem.mp h
  rcases Nat.lt_trichotomy i j with e | e | e
  · rw [(hp i j hi hj e).2]; simp
  · simp [e]
  · rw [(hp j i hj hi e).1]; simp
theorem Prt.good {z : List Nat} {b : Bool} {ws : List Str} (h : Prt z b ws) : partB z (partD ws) = true := by
  show (decide ((strsL ws).length ≤ 12) && (strsL ws).all (wdB z) && decide ((strsL ws).map sOf).Nodup) = true
  rw [sOf_strs, decide_eq_true h.unl, decide_eq_true (by show (ws.map D.str).length ≤ 12; rw [List.length_map]; exact h.few)]
  rw [Bool.true_and, Bool.and_true]
  refine List.all_eq_true.mpr fun d hd => ?_
  obtain ⟨w, hw, rfl⟩ := List.mem_map.mp hd
  have := h.ok w hw
  show (decide (1 ≤ w.length) && decide (w.length ≤ 6) && w.cps.toList.all fun c => decide (c ∈ z)) = true
  rw [decide_eq_true this.one, decide_eq_true this.six]
  exact List.all_eq_true.mpr fun c hc => decide_eq_true (this.inn c hc)
theorem Stp.good {z : List Nat} {s : List (List Str)} (h : Stp z s) : stepB z (stepD s) = true := by
  show (decide (1 ≤ (s.map partD).length) && decide ((s.map partD).length ≤ 5) && (s.map partD).all (partB z) && ((s.map partD).take ((s.map partD).length - 1)).all apartB) = true
  rw [List.length_map, decide_eq_true h.one, decide_eq_true h.few, Bool.true_and, Bool.true_and, Bool.and_eq_true]
  refine ⟨List.all_eq_true.mpr fun d hd => ?_, List.all_eq_true.mpr fun d hd => ?_⟩
  · obtain ⟨ws, hw, rfl⟩ := List.mem_map.mp hd
    obtain ⟨i, hi⟩ := List.getElem?_of_mem hw
    exact (h.ok i ws hi).good
  · rw [← List.map_take] at hd
    obtain ⟨ws, hw, rfl⟩ := List.mem_map.mp hd
    obtain ⟨i, hi⟩ := List.getElem?_of_mem hw
    have hil := (List.getElem?_eq_some_iff.mp hi).1
    rw [List.length_take] at hil
    rw [List.getElem?_take, if_pos (by omega)] at hi
    have := (h.ok i ws hi).apart (decide_eq_false (by omega))
    rw [apart_part]
    exact pairs_apart this
theorem plan_good {z : List Nat} {ps : List (List (List Str))} (h3 : ps.length ≤ 3) (h : ∀ s ∈ ps, Stp z s) : planB z (.tup (ps.map stepD)) = true := by
  show (decide ((ps.map stepD).length ≤ 3) && (ps.map stepD).all (stepB z)) = true
  rw [List.length_map, decide_eq_true h3, Bool.true_and]
  refine List.all_eq_true.mpr fun d hd => ?_
  obtain ⟨s, hs, rfl⟩ := List.mem_map.mp hd
  exact (h s hs).good
theorem law_true : ∀ ns : List Int, ns.length ≤ 63 → s_law [.scr ns] (fun _ => none) (fun d _ => d = .bl true) := by
  intro ns hns
  unfold s_law a_law
  rw [cand_eq]
  walk_at "go"
  refine g_kForR0 (fun i st C' => ∃ x1 x2 x3 x4 x5 x6 x7 x8 x9 x10 x11 x12 : Option D, st = [some (.scr ns), x1, x2, x3, x4, x5, x6, x7, x8, x9, x10, x11, x12]) ⟨_, _, _, _, _, _, _, _, _, _, _, _, rfl⟩ (fun i st C hi hh => ?_) (fun st C' hh => ?_)
  · obtain ⟨x1, x2, x3, x4, x5, x6, x7, x8, x9, x10, x11, x12, rfl⟩ := hh
    have hi : i < 3 := hi
    walk_at "go"
    refine pen_ok (by omega) fun p c hp hc => ?_
    have hP := pen_put (C := C) (p := p) hc
    generalize put C p c = C1 at hP ⊢
    walk_at "go"
    refine sized_ok (n := 3000) hP.less fun tg C2 ht hP _ => ?_
    walk_at "go"
    refine draw_ok (n := 2999) (m := 6) hP (by omega) (by omega) fun c sz hc hsz => ?_
    have hP := pen_put (C := C2) (p := p) hc
    generalize put C2 p c = C3 at hP ⊢
    walk_at "go"
    rw [show (1 : Int) + (sz : Int) = ((sz + 1 : Nat) : Int) by omega]
    refine draw_ok (n := 2998) (m := 2) hP (by omega) (by omega) fun c b hc hb => ?_
    have hP := pen_put (C := C3) (p := p) hc
    generalize put C3 p c = C4 at hP ⊢
    obtain ⟨mo, emo, hmo⟩ : ∃ mo : Nat, atI [D.int 3, .int 12] (b : Int) = some (.int (mo : Nat)) ∧ mo ≤ 12 := by
      have : b = 0 ∨ b = 1 := by omega
      rcases this with rfl | rfl
      · exact ⟨3, rfl, by omega⟩
      · exact ⟨12, rfl, by omega⟩
    refine g_ixL emo ?_
    walk_at "go"
    refine draw_ok (n := 2997) (m := 4) hP (by omega) (by omega) fun c many hc hmany => ?_
    have hP := pen_put (C := C4) (p := p) hc
    generalize put C4 p c = C5 at hP ⊢
    walk_at "go"
    have hrl : (rangeD 0 ((many : Nat) : Int).toNat).length = many := by rw [rangeD_len]; rfl
    refine g_kLc (fun i acc C9 => ∃ ps : List (List (List Str)), acc = ps.map stepD ∧ ps.length = i ∧ (∀ s ∈ ps, Stp (zs tg) s) ∧ Pen (500 + 700 * (3 - i)) C9 p) (by rw [hrl]; simp only [sizeLine]; omega) ⟨[], rfl, rfl, by simp, hP.less⟩ (fun j d acc C9 hj hw => ?_) (fun acc C9 hw => ?_)
    · have hj2 : j < many := by have := (List.getElem?_eq_some_iff.mp hj).1; rw [hrl] at this; exact this
      obtain ⟨ps, rfl, hpl, hps, hP⟩ := hw
      walk_at "go"
      refine step_ok (n := 500 + 700 * (3 - (j + 1))) ht (by omega) (by omega) hmo hP.less fun s C' hs hP' hO' => ?_
      refine ⟨ps ++ [s], by rw [List.map_append]; rfl, by rw [List.length_append, hpl]; rfl, fun t ht => ?_, hP'⟩
      rcases List.mem_append.mp ht with h | h
      · exact hps t h
      · rw [List.mem_singleton.mp h]; exact hs
    obtain ⟨ps, rfl, hpl, hps, hP⟩ := hw
    rw [hrl] at hpl
    have hpm : (ps.map stepD).length = ps.length := List.length_map ..
    have hpq : ∀ d ∈ ps.map stepD, Tq 3 d := fun d hd => by
      obtain ⟨s, hs, rfl⟩ := List.mem_map.mp hd
      exact (hps s hs).sml.step
    have hplan : Tq 4 (.tup (ps.map stepD)) := .tup (n := 3) (by omega) hpq
    walk_at "go"
    refine g_kForL (fun j st C' => C' = C9 ∧ ∃ x8, st = [some (.scr ns), some (.int (i : Nat)), some (.ce p), some (.tup (strsL tg)), some (.int ((sz + 1 : Nat) : Int)), some (.int (mo : Nat)), x6, some (.tup (ps.map stepD)), x8, x9, x10, x11, x12]) ⟨rfl, _, rfl⟩ (fun j d st C' hj hh => ?_) (fun st C' hh => ?_)
    · obtain ⟨rfl, x8, rfl⟩ := hh
      obtain ⟨s, hs, rfl⟩ := List.mem_map.mp (List.mem_of_getElem? hj)
      walk_at "go"
      refine g_ifF (fun K hK => ?_) ?_
      · walk_at "go"
        refine is_step_ok ht ((hps s hs).sml.step) ?_
        rw [(hps s hs).good]
        walk_at "go"
        exact hK
      walk_at "go"
      exact ⟨rfl, _, rfl⟩
    obtain ⟨rfl, x8, rfl⟩ := hh
    walk_at "go"
    refine g_ifF (fun K hK => ?_) ?_
    · walk_at "go"
      refine is_plan_ok ht hplan ?_
      rw [plan_good (by omega) hps]
      walk_at "go"
      refine is_plan_ok ht (.tup (n := 0) (by simp) fun d hd => (nomatch hd)) ?_
      rw [show planB (zs tg) (.tup []) = true from rfl]
      walk_at "go"
      rw [hpm]
      refine g_rep (by omega) (by omega) (by simp) ?_
      refine g_addT (by rw [hpm, flat_len]; simp only [sizeLine, List.length_singleton]; omega) ?_
      have hl4 : (ps.map stepD ++ (List.replicate ((4 : Int) - (ps.length : Int)).toNat [D.tup [.tup []]]).flatten).length = 4 := by
        rw [List.length_append, hpm, flat_len, List.length_singleton]; omega
      walk_at "go"
      refine is_plan_ok (n := 4) ht (.tup (n := 3) (by omega) fun d hd => ?_) ?_
      · rcases List.mem_append.mp hd with h | h
        · exact hpq d h
        · rw [List.mem_singleton.mp (flat_mem h)]
          exact .tup (n := 2) (by simp) fun d hd => by rw [List.mem_singleton.mp hd]; exact .tup (n := 1) (by simp) fun d hd => (nomatch hd)
      rw [show planB (zs tg) (.tup (ps.map stepD ++ (List.replicate ((4 : Int) - (ps.length : Int)).toNat [D.tup [.tup []]]).flatten)) = false by
        show (decide (_ ≤ 3) && _) = false
        rw [hl4]; rfl]
      walk_at "go"
      exact hK
    walk_at "go"
    refine text_ok (n := 480) (m := 3) ht (by omega) (by omega) hP.less fun t C10 ht1 ht3 _ hP hO => ?_
    walk_at "go"
    refine g_addT (by rw [hpm]; simp only [sizeLine, List.length_singleton]; omega) ?_
    walk_at "go"
    rw [hpm, show ((ps.length : Nat) : Int) + 1 = ((ps.length + 1 : Nat) : Int) by omega]
    refine draw_ok (n := 479) hP (by omega) (by omega) fun c at' hc hat => ?_
    have hP := pen_put (C := C10) (p := p) hc
    generalize put C10 p c = C11 at hP ⊢
    obtain ⟨s, hs, hsm⟩ : ∃ s, (ps.map stepD ++ [D.tup [.tup [.str t]]])[at']? = some (stepD s) ∧ Sml s := by
      by_cases h : at' < ps.length
      · refine ⟨ps[at'], ?_, (hps _ (List.getElem_mem h)).sml⟩
        rw [List.getElem?_append_left (by rw [hpm]; exact h), List.getElem?_map, List.getElem?_eq_getElem h]
        rfl
      · refine ⟨[[t]], ?_, ⟨by simp, by simp, fun ws hw => ?_⟩⟩
        · rw [List.getElem?_append_right (by rw [hpm]; omega), hpm, show at' - ps.length = 0 by omega]
          rfl
        · rw [List.mem_singleton.mp hw]
          exact ⟨by simp, fun w hw => by rw [List.mem_singleton.mp hw]; exact ⟨ht1, by omega⟩⟩
    refine g_ixTg hs ?_
    walk_at "go"
    refine g_kForR0 (fun j st C' => Pen (10 + 30 * (3 - j)) C' p ∧ ∃ x6 x9, st = [some (.scr ns), some (.int (i : Nat)), some (.ce p), some (.tup (strsL tg)), some (.int ((sz + 1 : Nat) : Int)), some (.int (mo : Nat)), x6, some (.tup (ps.map stepD)), some (stepD s), x9, x10, x11, x12]) ⟨hP.less, _, _, rfl⟩ (fun j st C' hj hh => ?_) (fun st C' hh => ?_)
    · obtain ⟨hP, x6, x9, rfl⟩ := hh
      have hj : j < 3 := hj
      walk_at "go"
      refine otherwise_ok (n := 10 + 30 * (3 - (j + 1))) ht hsm hP.less fun d C12 hd hP hO => ?_
      walk_at "go"
      refine g_ifF (fun K hK => ?_) ?_
      · walk_at "go"
        refine g_cutT ?_
        rw [show (2 : Int) = ((2 : Nat) : Int) from rfl, cutD_take]
        walk_at "go"
        refine g_addT (by rw [List.length_take, hpm]; simp only [sizeLine, List.length_singleton]; omega) ?_
        walk_at "go"
        refine asked_ok ht hd (.tup (n := 4) (by rw [List.length_append, List.length_take, hpm, List.length_singleton]; omega) fun x hx => ?_) ?_
        · rcases List.mem_append.mp hx with h | h
          · exact (hpq x (List.mem_of_mem_take h)).succ
          · rw [List.mem_singleton.mp h]; exact hd
        walk_at "go"
        exact hK
      walk_at "go"
      refine g_ifF (fun K hK => ?_) ?_
      · walk_at "go"
        refine g_cutT ?_
        rw [show (1 : Int) = ((1 : Nat) : Int) from rfl, cutD_take]
        refine g_addT (by rw [List.length_take, hpm]; simp only [sizeLine, List.length_singleton]; omega) ?_
        walk_at "go"
        refine asked_ok ht hd (.tup (n := 4) (by rw [List.length_append, List.length_take, hpm, List.length_singleton]; omega) fun x hx => ?_) ?_
        · rcases List.mem_append.mp hx with h | h
          · rw [List.mem_singleton.mp h]; exact hd
          · exact (hpq x (List.mem_of_mem_take h)).succ
        walk_at "go"
        exact hK
      walk_at "go"
      exact ⟨hP, _, _, rfl⟩
    obtain ⟨hP, x6, x9, rfl⟩ := hh
    walk_at "go"
    refine g_kLcFilter (oddP (zs tg)) id cand_sz (fun d hd R hR => ?_) (fun d hd hp R hR => ?_) ?_
    · obtain ⟨c, _, rfl⟩ := List.mem_map.mp hd
      walk_at "go"
      refine joinT_ok ht ?_
      walk_at "go"
      refine g_ninS ?_
      rw [in_one]
      walk_at "go"
      exact hR
    · walk_at "go"
      exact hR
    rw [odd_fil]
    walk_at "go"
    refine g_ixOdd (odds_ne ht) fun b hb => ?_
    have hbt : Tng [(⟨#[b]⟩ : Str)] := by
      have e : (Txt.join "" [(⟨#[b]⟩ : Str)]).cps.toList = [b] := join_toList [(⟨#[b]⟩ : Str)]
      have hl : (Txt.join "" [(⟨#[b]⟩ : Str)]).length = 1 := by rw [← AL.len_toList, e]; rfl
      refine ⟨by omega, by omega, fun c hc => ?_⟩
      rw [e] at hc
      rw [List.mem_singleton.mp hc]
      exact odd_good hb
    have hst := hsm.step
    walk_at "go"
    refine g_ifF (fun K hK => ?_) ?_
    · walk_at "go"
      refine asked_ok (tg := [(⟨#[b]⟩ : Str)]) hbt hst.succ hplan.succ ?_
      walk_at "go"
      refine asked_ok ht hst.succ (.lst (n := 4) (by omega) fun x hx => (hpq x hx).succ) ?_
      walk_at "go"
      exact hK
    walk_at "go"
    unfold aDict0F
    walk_at "go"
    refine g_kForL (fun j st C' => ∃ x11, st = [some (.scr ns), some (.int (i : Nat)), some (.ce p), some (.tup (strsL tg)), some (.int ((sz + 1 : Nat) : Int)), some (.int (mo : Nat)), x6, some (.tup (ps.map stepD)), some (stepD s), x9, some (.str ⟨#[b]⟩), x11, x12]) ⟨_, rfl⟩ (fun j d st C' hj hh => ?_) (fun st C' hh => ?_)
    · obtain ⟨x11, rfl⟩ := hh
      have hd : Tq 4 d := by
        have e0 : Tq 3 (.tup []) := .tup (n := 2) (by simp) fun d hd => (nomatch hd)
        have hm := List.mem_of_getElem? hj
        simp only [List.mem_cons, List.not_mem_nil, or_false] at hm
        rcases hm with rfl | rfl | rfl | rfl | rfl | rfl | rfl | rfl | rfl | rfl | rfl | rfl
        · exact .non _
        · exact .int _ _
        · exact .bl _ _
        · exact .str _ (by decide +kernel)
        · exact .str _ (by decide +kernel)
        · exact .lst (n := 3) (by simp) fun d hd => (nomatch hd)
        · exact .dk 1
        · exact .tup (n := 3) (by simp) fun d hd => by rw [List.mem_singleton.mp hd]; exact e0
        · exact .tup (n := 3) (by simp) fun d hd => by simp at hd; rw [hd]; exact e0
        · exact .tup (n := 3) (by simp) fun d hd => by rw [List.mem_singleton.mp hd]; exact .non _
        · exact .tup (n := 3) (by simp) fun d hd => by rw [List.mem_singleton.mp hd]; exact .str _ (by decide +kernel)
        · refine .tup (n := 3) (by simp) fun d hd => ?_
          rcases List.mem_cons.mp hd with e | hd
          · rw [e]
            exact .tup (n := 2) (by simp) fun d hd => by rw [List.mem_singleton.mp hd]; exact .tup (n := 1) (by simp) fun d hd => by rw [List.mem_singleton.mp hd]; exact .str _ (by decide +kernel)
          · rw [List.mem_singleton.mp hd]; exact .non _
      walk_at "go"
      refine g_ifF (fun K hK => ?_) ?_
      · walk_at "go"
        refine asked_ok ht hd hd.succ ?_
        walk_at "go"
        exact hK
      walk_at "go"
      exact ⟨_, rfl⟩
    obtain ⟨x11, rfl⟩ := hh
    exact ⟨_, _, _, _, _, _, _, _, _, _, _, _, rfl⟩
  · obtain ⟨x1, x2, x3, x4, x5, x6, x7, x8, x9, x10, x11, x12, rfl⟩ := hh
    walk_at "go"
    rfl
end A_k43
namespace A_k43
open PySem PySem.Spec L2 AL
open PyProof.Rows (envOfC)
def topS (i : Nat) : Stmt := PySem.Challenge.pw_wordrules_k43_what_is_a_step.main.body.getD i (.Pass ⟨0, 0, 0, 0⟩)
abbrev st_signs_of : Stmt := topS 2
theorem sc_signs_of : FnScope ["tongue"] ["tongue"] (defScope st_signs_of) := ⟨rfl, rfl, rfl, by decide +kernel, rfl, by decide +kernel, by decide +kernel⟩
theorem ok_signs_of {P : Program} {w : World} {K : PySem.W.Frag} {mg : Str → Option Value} {base : Heap} {f : Addr} {fd : FuncData} (F : L2.Fun K "signs_of" "signs_of" st_signs_of f fd) (hm : mg "signs_of" = some (.ref f)) (hb : Binds K fd ["tongue"] []) : Cal P w K mg base 1 "signs_of" 1 s_signs_of := by
  refine calA (b := a_signs_of) F sc_signs_of rfl hm hb ?_ (fun _ _ _ _ h => h)
  intro cdv A outer s H E hr hgd
  have hw : (Bs.nil ⟨w, mg⟩).g = ⟨w, mg⟩ := rfl
  exact ⟨_, ass_one (as_ret (ae_meth (K := K) PySem.F.plainAttrs_str PySem.F.slot_str_join PySem.F.type_str_join (am_join (K := K)) (ae_str) (aa_cons (ae_v 0) (aa_nil))))⟩
abbrev st_begins_another : Stmt := topS 6
theorem sc_begins_another : FnScope ["part", "at", "one", "k", "other"] ["part"] (defScope st_begins_another) := ⟨rfl, rfl, rfl, by decide +kernel, rfl, by decide +kernel, by decide +kernel⟩
theorem ok_begins_another {P : Program} {w : World} {K : PySem.W.Frag} {mg : Str → Option Value} {base : Heap} {f : Addr} {fd : FuncData} (F : L2.Fun K "begins_another" "begins_another" st_begins_another f fd) (hm : mg "begins_another" = some (.ref f)) (hb : Binds K fd ["part"] []) (m_enumerate : mg "enumerate" = none) : Cal P w K mg base 1 "begins_another" 1 s_begins_another := by
  refine calA (b := a_begins_another) F sc_begins_another rfl hm hb ?_ (fun _ _ _ _ h => h)
  intro cdv A outer s H E hr hgd
  have hw : (Bs.nil ⟨w, mg⟩).g = ⟨w, mg⟩ := rfl
  exact ⟨_, ass_cons (as_for (ai_enumG (K := K) m_enumerate (aa_cons (ae_v 0) (aa_nil))) (ag_tup (K := K) (ags_cons (ag_name 1 (vs := [1, 2]) sc_begins_another.nd rfl (.inl rfl)) (ags_cons (ag_name 2 (vs := [1, 2]) sc_begins_another.nd rfl (.inl rfl)) (ags_nil))))
      (ass_one (as_for (ai_enumG (K := K) m_enumerate (aa_cons (ae_v 0) (aa_nil))) (ag_tup (K := K) (ags_cons (ag_name 3 (vs := [3, 4]) sc_begins_another.nd rfl (.inl rfl)) (ags_cons (ag_name 4 (vs := [3, 4]) sc_begins_another.nd rfl (.inl rfl)) (ags_nil))))
      (ass_one (as_if (aw_t (aw_and (at_cmp (ao_ne (K := K) hr.units) (ae_v 1) (ae_v 3)) (aw_and1 (at_tru (K := K) (ae_meth (K := K) PySem.F.plainAttrs_str PySem.F.slot_str_startswith PySem.F.type_str_startswith am_startswith (ae_v 4) (aa_cons (ae_v 2) (aa_nil)))))))
      (ass_one (as_ret (ae_bl)))
      (ass_nil))))))
      (ass_one (as_ret (ae_bl)))⟩
abbrev st_law_pen : Stmt := topS 11
theorem sc_law_pen : FnScope ["_law_script", "_law_k", "_law_cell"] ["_law_script", "_law_k"] (defScope st_law_pen) := ⟨rfl, rfl, rfl, by decide +kernel, rfl, by decide +kernel, by decide +kernel⟩
theorem ok_law_pen {P : Program} {w : World} {K : PySem.W.Frag} {mg : Str → Option Value} {base : Heap} {f : Addr} {fd : FuncData} (F : L2.Fun K "_law_pen" "_law_pen" st_law_pen f fd) (hm : mg "_law_pen" = some (.ref f)) (hb : Binds K fd ["_law_script", "_law_k"] []) (m_len : mg "len" = none) : Cal P w K mg base 1 "_law_pen" 2 s_law_pen := by
  refine calA (b := a_law_pen) F sc_law_pen rfl hm hb ?_ (fun _ _ _ _ h => h)
  intro cdv A outer s H E hr hgd
  have hw : (Bs.nil ⟨w, mg⟩).g = ⟨w, mg⟩ := rfl
  exact ⟨_, ass_cons (as_set 2 sc_law_pen.nd (ae_op (ao_add (K := K)) (ae_op ao_mul (ae_int) (ae_v 1)) (ae_int)) rfl (.inl rfl))
      (ass_cons (as_if (at_cmp ao_lt (ae_v 1) (ae_callB (ac_len (K := K)) m_len (by decide +kernel) (aa_cons (ae_v 0) (aa_nil))))
      (ass_one (as_set 2 sc_law_pen.nd (ae_ix (K := K) (ae_v 0) (ae_v 1)) rfl (.inl rfl)))
      (ass_one (as_if (at_cmp ao_gt (ae_callB (ac_len (K := K)) m_len (by decide +kernel) (aa_cons (ae_v 0) (aa_nil))) (ae_int))
      (ass_one (as_set 2 sc_law_pen.nd (ae_op (ao_add (K := K)) (ae_op ao_mod (ae_ix (K := K) (ae_v 0) (ae_op ao_mod (ae_v 1) (ae_callB (ac_len (K := K)) m_len (by decide +kernel) (aa_cons (ae_v 0) (aa_nil))))) (ae_int)) (ae_op ao_mul (ae_int) (ae_v 1))) rfl (.inl rfl)))
      (ass_nil))))
      (ass_cons (as_if (at_cmp ao_ge (ae_v 2) (ae_op ao_pow (ae_int) (ae_int)))
      (ass_one (as_ret (ae_lstM (aa_cons (ae_op ao_sub (ae_v 2) (ae_op ao_pow (ae_int) (ae_int))) (aa_cons (ae_op ao_mod (ae_v 2) (ae_int)) (aa_cons (ae_int) (aa_nil)))))))
      (ass_nil))
      (ass_one (as_ret (ae_lstM (aa_cons (ae_int) (aa_cons (ae_op ao_mod (ae_v 2) (ae_int)) (aa_cons (ae_int) (aa_nil)))))))))⟩
abbrev st_law_draw : Stmt := topS 12
theorem sc_law_draw : FnScope ["_law_pen_here", "_law_many", "_law_drawn", "_law_number"] ["_law_pen_here", "_law_many"] (defScope st_law_draw) := ⟨rfl, rfl, rfl, by decide +kernel, rfl, by decide +kernel, by decide +kernel⟩
theorem ok_law_draw {P : Program} {w : World} {K : PySem.W.Frag} {mg : Str → Option Value} {base : Heap} {f : Addr} {fd : FuncData} (F : L2.Fun K "_law_draw" "_law_draw" st_law_draw f fd) (hm : mg "_law_draw" = some (.ref f)) (hb : Binds K fd ["_law_pen_here", "_law_many"] []) : Cal P w K mg base 1 "_law_draw" 2 s_law_draw := by
  refine calA (b := a_law_draw) F sc_law_draw rfl hm hb ?_ (fun _ _ _ _ h => h)
  intro cdv A outer s H E hr hgd
  have hw : (Bs.nil ⟨w, mg⟩).g = ⟨w, mg⟩ := rfl
  exact ⟨_, ass_cons (as_setL (ae_op (ao_add (K := K)) (ae_ix (K := K) (ae_v 0) (ae_int)) (ae_int)) (ae_v 0) (ae_int))
      (ass_cons (as_if (at_cmp ao_gt (ae_ix (K := K) (ae_v 0) (ae_int)) (ae_int))
      (ass_cons (as_set 2 sc_law_draw.nd (ae_op ao_mod (ae_ix (K := K) (ae_v 0) (ae_int)) (ae_v 1)) rfl (.inl rfl))
      (ass_cons (as_setL (ae_op ao_div (ae_ix (K := K) (ae_v 0) (ae_int)) (ae_v 1)) (ae_v 0) (ae_int))
      (ass_one (as_ret (ae_v 2)))))
      (ass_nil))
      (ass_cons (as_set 3 sc_law_draw.nd (ae_op ao_mod (ae_op (ao_add (K := K)) (ae_op (ao_add (K := K)) (ae_ix (K := K) (ae_v 0) (ae_int)) (ae_op ao_mul (ae_int) (ae_ix (K := K) (ae_v 0) (ae_int)))) (ae_int)) (ae_int)) rfl (.inl rfl))
      (ass_cons (as_set 3 sc_law_draw.nd (ae_op (ao_add (K := K)) (ae_op ao_mod (ae_op ao_mul (ae_v 3) (ae_v 3)) (ae_int)) (ae_op ao_mul (ae_int) (ae_ix (K := K) (ae_v 0) (ae_int)))) rfl (.inl rfl))
      (ass_cons (as_set 3 sc_law_draw.nd (ae_op ao_mod (ae_op ao_mul (ae_v 3) (ae_v 3)) (ae_int)) rfl (.inl rfl))
      (ass_one (as_ret (ae_op ao_mod (ae_op ao_div (ae_v 3) (ae_int)) (ae_v 1))))))))⟩
abbrev st_law_is_part : Stmt := topS 17
theorem sc_law_is_part : FnScope ["_law_tongue_here", "_law_part_here", "_law_last", "_law_signs", "_law_word", "_law_at", "_law_one", "_law_sign", "_law_k"] ["_law_tongue_here", "_law_part_here", "_law_last"] (defScope st_law_is_part) := ⟨rfl, rfl, rfl, by decide +kernel, rfl, by decide +kernel, by decide +kernel⟩
theorem ok_law_is_part {P : Program} {w : World} {K : PySem.W.Frag} {mg : Str → Option Value} {base : Heap} {f : Addr} {fd : FuncData} (F : L2.Fun K "_law_is_part" "_law_is_part" st_law_is_part f fd) (hm : mg "_law_is_part" = some (.ref f)) (hb : Binds K fd ["_law_tongue_here", "_law_part_here", "_law_last"] []) (m_enumerate : mg "enumerate" = none) (m_isinstance : mg "isinstance" = none) (m_len : mg "len" = none) (m_str : mg "str" = none) (m_tuple : mg "tuple" = none) : Cal P w K mg base 1 "_law_is_part" 3 s_law_is_part := by
  refine calA (b := a_law_is_part) F sc_law_is_part rfl hm hb ?_ (fun _ _ _ _ h => h)
  intro cdv A outer s H E hr hgd
  have hw : (Bs.nil ⟨w, mg⟩).g = ⟨w, mg⟩ := rfl
  exact ⟨_, ass_cons (as_if (aw_t (aw_or (at_not (at_tru (K := K) (ae_isi (K := K) (ae_v 1) m_isinstance m_tuple (by decide +kernel)))) (aw_or1 (at_cmp ao_gt (ae_callB (ac_len (K := K)) m_len (by decide +kernel) (aa_cons (ae_v 1) (aa_nil))) (ae_int)))))
      (ass_one (as_ret (ae_bl)))
      (ass_nil))
      (ass_cons (as_set 3 sc_law_is_part.nd (ae_meth (K := K) PySem.F.plainAttrs_str PySem.F.slot_str_join PySem.F.type_str_join (am_join (K := K)) (ae_str) (aa_cons (ae_v 0) (aa_nil))) rfl (.inr rfl))
      (ass_cons (as_for (ai_tup (K := K) (ae_v 1)) (ag_name 4 (vs := [4]) sc_law_is_part.nd rfl (.inl rfl))
      (ass_cons (as_if (aw_t (aw_or (at_not (at_tru (K := K) (ae_isi (K := K) (ae_v 4) m_isinstance m_str (by decide +kernel)))) (aw_or (at_not (at_chain ao_le ao_le (ae_int) (ae_callB (ac_len (K := K)) m_len (by decide +kernel) (aa_cons (ae_v 4) (aa_nil))) (ae_int))) (aw_or1 (at_cmp ao_gt (ae_methT PySem.F.plainAttrs_tuple PySem.F.slot_tuple_count PySem.F.type_tuple_count (am_countT (K := K) hr.units) (ae_v 1) (aa_cons (ae_v 4) (aa_nil))) (ae_int))))))
      (ass_one (as_ret (ae_bl)))
      (ass_nil))
      (ass_one (as_if (at_cmp (ao_neNil (K := K) hr.units) (ae_lc [("_law_sign", 7)] sc_law_is_part.nd (ai_str (ae_v 4)) (blkOk_by (own := [("_law_sign", 7)]) (N := ["_law_tongue_here", "_law_part_here", "_law_last", "_law_signs", "_law_word", "_law_at", "_law_one", "_law_sign", "_law_k"]) (sc := defScope st_law_is_part) (by decide +kernel)) (fun _ _ _ _ _ => ag_name 7 (vs := [7]) sc_law_is_part.nd rfl (.inl rfl)) (fun _ _ _ _ _ => ats_one (at_cmp ao_ninS (ae_v 7) (ae_v 3))) (fun _ _ _ _ _ => ae_v 7)) (ae_lst (aa_nil)))
      (ass_one (as_ret (ae_bl)))
      (ass_nil)))))
      (ass_cons (as_if (at_tru (K := K) (ae_v 2))
      (ass_one (as_ret (ae_bl)))
      (ass_nil))
      (ass_cons (as_for (ai_enumG (K := K) m_enumerate (aa_cons (ae_v 1) (aa_nil))) (ag_tup (K := K) (ags_cons (ag_name 5 (vs := [5, 6]) sc_law_is_part.nd rfl (.inr rfl)) (ags_cons (ag_name 6 (vs := [5, 6]) sc_law_is_part.nd rfl (.inr rfl)) (ags_nil))))
      (ass_one (as_if (at_cmp (ao_neNil (K := K) hr.units) (ae_lc [("_law_k", 8), ("_law_word", 4)] sc_law_is_part.nd (ai_enumG (K := K) m_enumerate (aa_cons (ae_v 1) (aa_nil))) (blkOk_by (own := [("_law_k", 8), ("_law_word", 4)]) (N := ["_law_tongue_here", "_law_part_here", "_law_last", "_law_signs", "_law_word", "_law_at", "_law_one", "_law_sign", "_law_k"]) (sc := defScope st_law_is_part) (by decide +kernel)) (fun _ _ _ _ _ => ag_tup (K := K) (ags_cons (ag_name 8 (vs := [8, 4]) sc_law_is_part.nd rfl (.inl rfl)) (ags_cons (ag_name 4 (vs := [8, 4]) sc_law_is_part.nd rfl (.inl rfl)) (ags_nil)))) (fun _ _ _ _ _ => ats_one (aw_t (aw_and (at_cmp (ao_ne (K := K) hr.units) (ae_v 8) (ae_v 5)) (aw_and1 (at_cmp (ao_eq (K := K) hr.units) (ae_cut (K := K) (ae_v 4) ao_none (ao_some (ae_callB (ac_len (K := K)) m_len (by decide +kernel) (aa_cons (ae_v 6) (aa_nil))))) (ae_v 6)))))) (fun _ _ _ _ _ => ae_v 4)) (ae_lst (aa_nil)))
      (ass_one (as_ret (ae_bl)))
      (ass_nil))))
      (ass_one (as_ret (ae_bl)))))))⟩
abbrev st_has_signs : Stmt := topS 3
theorem sc_has_signs : FnScope ["tongue", "text", "signs", "sign"] ["tongue", "text"] (defScope st_has_signs) := ⟨rfl, rfl, rfl, by decide +kernel, rfl, by decide +kernel, by decide +kernel⟩
theorem ok_has_signs {P : Program} {w : World} {K : PySem.W.Frag} {mg : Str → Option Value} {base : Heap} {f : Addr} {fd : FuncData} (F : L2.Fun K "has_signs" "has_signs" st_has_signs f fd) (hm : mg "has_signs" = some (.ref f)) (hb : Binds K fd ["tongue", "text"] []) (m_all : mg "all" = none) (c_signs_of : Cal P w K mg base 1 "signs_of" 1 s_signs_of) : Cal P w K mg base 2 "has_signs" 2 s_has_signs := by
  refine calA (b := a_has_signs) F sc_has_signs rfl hm hb ?_ (fun _ _ _ _ h => h)
  intro cdv A outer s H E hr hgd
  have hw : (Bs.nil ⟨w, mg⟩).g = ⟨w, mg⟩ := rfl
  exact ⟨_, ass_cons (as_set 2 sc_has_signs.nd (ae_call (K := K) (g := ⟨w, mg⟩) c_signs_of hr hgd (aa_cons (ae_v 0) (aa_nil))) rfl (.inr rfl))
      (ass_one (as_ret (ae_callB (ac_all (K := K)) m_all (by decide +kernel) (aa_cons (ae_lc [("sign", 3)] sc_has_signs.nd (ai_str (ae_v 1)) (blkOk_by (own := [("sign", 3)]) (N := ["tongue", "text", "signs", "sign"]) (sc := defScope st_has_signs) (by decide +kernel)) (fun _ _ _ _ _ => ag_name 3 (vs := [3]) sc_has_signs.nd rfl (.inl rfl)) (fun _ _ _ _ _ => ats_nil) (fun _ _ _ _ _ => ae_cmp ao_inS (ae_v 3) (ae_v 2))) (aa_nil)))))⟩
abbrev st_law_tongue : Stmt := topS 13
theorem sc_law_tongue : FnScope ["_law_pen_here", "_law_most", "_law_signs", "_law_amount", "_law_k", "_law_sizes", "_law_kinds", "_law_size", "_law_kind", "_law_at"] ["_law_pen_here", "_law_most"] (defScope st_law_tongue) := ⟨rfl, rfl, rfl, by decide +kernel, rfl, by decide +kernel, by decide +kernel⟩
theorem ok_law_tongue {P : Program} {w : World} {K : PySem.W.Frag} {mg : Str → Option Value} {base : Heap} {f : Addr} {fd : FuncData} (F : L2.Fun K "_law_tongue" "_law_tongue" st_law_tongue f fd) (hm : mg "_law_tongue" = some (.ref f)) (hb : Binds K fd ["_law_pen_here", "_law_most"] []) (m_len : mg "len" = none) (m_max : mg "max" = none) (m_range : mg "range" = none) (m_sum : mg "sum" = none) (m_tuple : mg "tuple" = none) (c_law_draw : Cal P w K mg base 1 "_law_draw" 2 s_law_draw) : Cal P w K mg base 2 "_law_tongue" 2 s_law_tongue := by
  refine calA (b := a_law_tongue) F sc_law_tongue rfl hm hb ?_ (fun _ _ _ _ h => h)
  intro cdv A outer s H E hr hgd
  have hw : (Bs.nil ⟨w, mg⟩).g = ⟨w, mg⟩ := rfl
  exact ⟨_, ass_cons (as_set 2 sc_law_tongue.nd (ae_str) rfl (.inl rfl))
      (ass_cons (as_set 3 sc_law_tongue.nd (ae_op (ao_add (K := K)) (ae_int) (ae_call (K := K) (g := ⟨w, mg⟩) c_law_draw hr hgd (aa_cons (ae_v 0) (aa_cons (ae_int) (aa_nil))))) rfl (.inl rfl))
      (ass_cons (as_setLcM 5 [("_law_k", 4)] sc_law_tongue.nd (ai_range1 m_range (aa_cons (ae_v 3) (aa_nil))) (sw_true rfl rfl rfl (by decide +kernel)) (blkOk_by (own := [("_law_k", 4)]) (N := ["_law_pen_here", "_law_most", "_law_signs", "_law_amount", "_law_k", "_law_sizes", "_law_kinds", "_law_size", "_law_kind", "_law_at"]) (sc := defScope st_law_tongue) (by decide +kernel)) (fun _ _ _ _ _ => ag_name 4 (vs := [4]) sc_law_tongue.nd rfl (.inl rfl)) (fun _ _ _ _ _ => ats_nil) (fun _ _ _ _ _ => ae_op (ao_add (K := K)) (ae_int) (ae_call (K := K) (g := ⟨w, mg⟩) c_law_draw hr hgd (aa_cons (ae_v 0) (aa_cons (ae_v 1) (aa_nil))))))
      (ass_cons (as_if (aw_t (aw_and (at_cmp (ao_eq (K := K) hr.units) (ae_v 1) (ae_int)) (aw_and1 (at_cmp (ao_eq (K := K) hr.units) (ae_call (K := K) (g := ⟨w, mg⟩) c_law_draw hr hgd (aa_cons (ae_v 0) (aa_cons (ae_int) (aa_nil)))) (ae_int)))))
      (ass_one (as_set 5 sc_law_tongue.nd (ae_ix (K := K) (ae_lst (aa_cons (ae_lst (aa_cons (ae_int) (aa_cons (ae_int) (aa_nil)))) (aa_cons (ae_lst (aa_cons (ae_int) (aa_cons (ae_int) (aa_cons (ae_int) (aa_nil))))) (aa_cons (ae_lst (aa_cons (ae_int) (aa_cons (ae_int) (aa_cons (ae_int) (aa_cons (ae_int) (aa_nil)))))) (aa_cons (ae_lst (aa_cons (ae_int) (aa_cons (ae_int) (aa_cons (ae_int) (aa_nil))))) (aa_nil)))))) (ae_call (K := K) (g := ⟨w, mg⟩) c_law_draw hr hgd (aa_cons (ae_v 0) (aa_cons (ae_int) (aa_nil))))) rfl (.inl rfl)))
      (ass_nil))
      (ass_cons (as_while (at_cmp ao_gt (ae_callB (ac_sum (K := K)) m_sum (by decide +kernel) (aa_cons (ae_v 5) (aa_nil))) (ae_int))
      (ass_one (as_setL (ae_op ao_sub (ae_callB (ac_maxL (K := K)) m_max (by decide +kernel) (aa_cons (ae_v 5) (aa_nil))) (ae_int)) (ae_v 5) (ae_meth (K := K) PySem.F.plainAttrs_list PySem.F.slot_list_index PySem.F.type_list_index (am_lindex (K := K)) (ae_v 5) (aa_cons (ae_callB (ac_maxL (K := K)) m_max (by decide +kernel) (aa_cons (ae_v 5) (aa_nil))) (aa_nil))))))
      (ass_frzO 5 (ass_cons (as_set 6 sc_law_tongue.nd (ae_lstM (aa_nil)) rfl (.inl rfl))
      (ass_cons (as_for (ai_list (K := K) (ae_v 5)) (ag_name 7 (vs := [7]) sc_law_tongue.nd rfl (.inl rfl))
      (ass_cons (as_set 8 sc_law_tongue.nd (ae_str) rfl (.inl rfl))
      (ass_cons (as_for (ai_range1 m_range (aa_cons (ae_v 7) (aa_nil))) (ag_name 4 (vs := [4]) sc_law_tongue.nd rfl (.inl rfl))
      (ass_cons (as_set 9 sc_law_tongue.nd (ae_call (K := K) (g := ⟨w, mg⟩) c_law_draw hr hgd (aa_cons (ae_v 0) (aa_cons (ae_callB (ac_len (K := K)) m_len (by decide +kernel) (aa_cons (ae_v 2) (aa_nil))) (aa_nil)))) rfl (.inl rfl))
      (ass_cons (as_set 8 sc_law_tongue.nd (ae_op (ao_add (K := K)) (ae_v 8) (ae_ix (K := K) (ae_v 2) (ae_v 9))) rfl (.inl rfl))
      (ass_one (as_set 2 sc_law_tongue.nd (ae_op (ao_add (K := K)) (ae_cut (K := K) (ae_v 2) ao_none (ao_some (ae_v 9))) (ae_cut (K := K) (ae_v 2) (ao_some (ae_op (ao_add (K := K)) (ae_v 9) (ae_int))) ao_none)) rfl (.inl rfl))))))
      (ass_one (as_expr (ae_meth (K := K) PySem.F.plainAttrs_list PySem.F.slot_list_append PySem.F.type_list_append am_append (ae_v 6) (aa_cons (ae_v 8) (aa_nil))))))))
      (ass_frz 6 (ass_one (as_ret (ae_callT (ac_tuple (K := K)) m_tuple (by decide +kernel) (aa_cons (ae_v 6) (aa_nil)))))))))))))⟩
abbrev st_law_text : Stmt := topS 14
theorem sc_law_text : FnScope ["_law_pen_here", "_law_tongue_here", "_law_most", "_law_signs", "_law_word", "_law_alike", "_law_k", "_law_sign"] ["_law_pen_here", "_law_tongue_here", "_law_most"] (defScope st_law_text) := ⟨rfl, rfl, rfl, by decide +kernel, rfl, by decide +kernel, by decide +kernel⟩
theorem ok_law_text {P : Program} {w : World} {K : PySem.W.Frag} {mg : Str → Option Value} {base : Heap} {f : Addr} {fd : FuncData} (F : L2.Fun K "_law_text" "_law_text" st_law_text f fd) (hm : mg "_law_text" = some (.ref f)) (hb : Binds K fd ["_law_pen_here", "_law_tongue_here", "_law_most"] []) (m_len : mg "len" = none) (m_range : mg "range" = none) (c_law_draw : Cal P w K mg base 1 "_law_draw" 2 s_law_draw) : Cal P w K mg base 2 "_law_text" 3 s_law_text := by
  refine calA (b := a_law_text) F sc_law_text rfl hm hb ?_ (fun _ _ _ _ h => h)
  intro cdv A outer s H E hr hgd
  have hw : (Bs.nil ⟨w, mg⟩).g = ⟨w, mg⟩ := rfl
  exact ⟨_, ass_cons (as_set 3 sc_law_text.nd (ae_meth (K := K) PySem.F.plainAttrs_str PySem.F.slot_str_join PySem.F.type_str_join (am_join (K := K)) (ae_str) (aa_cons (ae_v 1) (aa_nil))) rfl (.inl rfl))
      (ass_cons (as_set 4 sc_law_text.nd (ae_ix (K := K) (ae_v 3) (ae_call (K := K) (g := ⟨w, mg⟩) c_law_draw hr hgd (aa_cons (ae_v 0) (aa_cons (ae_callB (ac_len (K := K)) m_len (by decide +kernel) (aa_cons (ae_v 3) (aa_nil))) (aa_nil))))) rfl (.inl rfl))
      (ass_cons (as_set 5 sc_law_text.nd (ae_cmp (ao_eq (K := K) hr.units) (ae_call (K := K) (g := ⟨w, mg⟩) c_law_draw hr hgd (aa_cons (ae_v 0) (aa_cons (ae_int) (aa_nil)))) (ae_int)) rfl (.inl rfl))
      (ass_cons (as_for (ai_range1 m_range (aa_cons (ae_call (K := K) (g := ⟨w, mg⟩) c_law_draw hr hgd (aa_cons (ae_v 0) (aa_cons (ae_v 2) (aa_nil)))) (aa_nil))) (ag_name 6 (vs := [6]) sc_law_text.nd rfl (.inl rfl))
      (ass_cons (as_set 7 sc_law_text.nd (ae_ix (K := K) (ae_v 3) (ae_call (K := K) (g := ⟨w, mg⟩) c_law_draw hr hgd (aa_cons (ae_v 0) (aa_cons (ae_callB (ac_len (K := K)) m_len (by decide +kernel) (aa_cons (ae_v 3) (aa_nil))) (aa_nil))))) rfl (.inl rfl))
      (ass_cons (as_if (at_tru (K := K) (ae_v 5))
      (ass_one (as_set 7 sc_law_text.nd (ae_ix (K := K) (ae_v 4) (ae_int)) rfl (.inl rfl)))
      (ass_nil))
      (ass_one (as_set 4 sc_law_text.nd (ae_op (ao_add (K := K)) (ae_v 4) (ae_v 7)) rfl (.inl rfl))))))
      (ass_one (as_ret (ae_v 4))))))⟩
abbrev st_law_is_step : Stmt := topS 18
theorem sc_law_is_step : FnScope ["_law_tongue_here", "_law_step_here", "_law_k", "_law_part_here"] ["_law_tongue_here", "_law_step_here"] (defScope st_law_is_step) := ⟨rfl, rfl, rfl, by decide +kernel, rfl, by decide +kernel, by decide +kernel⟩
theorem ok_law_is_step {P : Program} {w : World} {K : PySem.W.Frag} {mg : Str → Option Value} {base : Heap} {f : Addr} {fd : FuncData} (F : L2.Fun K "_law_is_step" "_law_is_step" st_law_is_step f fd) (hm : mg "_law_is_step" = some (.ref f)) (hb : Binds K fd ["_law_tongue_here", "_law_step_here"] []) (m_enumerate : mg "enumerate" = none) (m_isinstance : mg "isinstance" = none) (m_len : mg "len" = none) (m_tuple : mg "tuple" = none) (c_law_is_part : Cal P w K mg base 1 "_law_is_part" 3 s_law_is_part) : Cal P w K mg base 2 "_law_is_step" 2 s_law_is_step := by
  refine calA (b := a_law_is_step) F sc_law_is_step rfl hm hb ?_ (fun _ _ _ _ h => h)
  intro cdv A outer s H E hr hgd
  have hw : (Bs.nil ⟨w, mg⟩).g = ⟨w, mg⟩ := rfl
  exact ⟨_, ass_cons (as_if (aw_t (aw_or (at_not (at_tru (K := K) (ae_isi (K := K) (ae_v 1) m_isinstance m_tuple (by decide +kernel)))) (aw_or1 (at_not (at_chain ao_le ao_le (ae_int) (ae_callB (ac_len (K := K)) m_len (by decide +kernel) (aa_cons (ae_v 1) (aa_nil))) (ae_int))))))
      (ass_one (as_ret (ae_bl)))
      (ass_nil))
      (ass_cons (as_for (ai_enumG (K := K) m_enumerate (aa_cons (ae_v 1) (aa_nil))) (ag_tup (K := K) (ags_cons (ag_name 2 (vs := [2, 3]) sc_law_is_step.nd rfl (.inl rfl)) (ags_cons (ag_name 3 (vs := [2, 3]) sc_law_is_step.nd rfl (.inl rfl)) (ags_nil))))
      (ass_one (as_if (at_not (at_tru (K := K) (ae_call (K := K) (g := ⟨w, mg⟩) c_law_is_part hr hgd (aa_cons (ae_v 0) (aa_cons (ae_v 3) (aa_cons (ae_cmp (ao_eq (K := K) hr.units) (ae_v 2) (ae_op ao_sub (ae_callB (ac_len (K := K)) m_len (by decide +kernel) (aa_cons (ae_v 1) (aa_nil))) (ae_int))) (aa_nil)))))))
      (ass_one (as_ret (ae_bl)))
      (ass_nil))))
      (ass_one (as_ret (ae_bl))))⟩
abbrev st_law_words : Stmt := topS 20
theorem sc_law_words : FnScope ["_law_pen_here", "_law_tongue_here", "_law_word", "_law_first", "_law_strange", "_law_some", "_law_sign"] ["_law_pen_here", "_law_tongue_here", "_law_word"] (defScope st_law_words) := ⟨rfl, rfl, rfl, by decide +kernel, rfl, by decide +kernel, by decide +kernel⟩
theorem ok_law_words {P : Program} {w : World} {K : PySem.W.Frag} {mg : Str → Option Value} {base : Heap} {f : Addr} {fd : FuncData} (F : L2.Fun K "_law_words" "_law_words" st_law_words f fd) (hm : mg "_law_words" = some (.ref f)) (hb : Binds K fd ["_law_pen_here", "_law_tongue_here", "_law_word"] []) (m_len : mg "len" = none) (c_law_draw : Cal P w K mg base 1 "_law_draw" 2 s_law_draw) : Cal P w K mg base 2 "_law_words" 3 s_law_words := by
  refine calA (b := a_law_words) F sc_law_words rfl hm hb ?_ (fun _ _ _ _ h => h)
  intro cdv A outer s H E hr hgd
  have hw : (Bs.nil ⟨w, mg⟩).g = ⟨w, mg⟩ := rfl
  exact ⟨_, ass_cons (as_set 3 sc_law_words.nd (ae_ix (K := K) (ae_v 2) (ae_int)) rfl (.inl rfl))
      (ass_cons (as_set 4 sc_law_words.nd (ae_ix (K := K) (ae_lc [("_law_sign", 6)] sc_law_words.nd (ai_str (ae_str)) (blkOk_by (own := [("_law_sign", 6)]) (N := ["_law_pen_here", "_law_tongue_here", "_law_word", "_law_first", "_law_strange", "_law_some", "_law_sign"]) (sc := defScope st_law_words) (by decide +kernel)) (fun _ _ _ _ _ => ag_name 6 (vs := [6]) sc_law_words.nd rfl (.inl rfl)) (fun _ _ _ _ _ => ats_one (at_cmp ao_ninS (ae_v 6) (ae_meth (K := K) PySem.F.plainAttrs_str PySem.F.slot_str_join PySem.F.type_str_join (am_join (K := K)) (ae_str) (aa_cons (ae_v 1) (aa_nil))))) (fun _ _ _ _ _ => ae_v 6)) (ae_int)) rfl (.inl rfl))
      (ass_cons (as_set 5 sc_law_words.nd (ae_lst (aa_cons (ae_tup (aa_cons (ae_op ao_mulS (ae_v 3) (ae_int)) (aa_nil))) (aa_cons (ae_tup (aa_cons (ae_str) (aa_nil))) (aa_cons (ae_tup (aa_cons (ae_v 2) (aa_nil))) (aa_cons (ae_tup (aa_cons (ae_v 4) (aa_nil))) (aa_cons (ae_tup (aa_cons (ae_op (ao_add (K := K)) (ae_v 2) (ae_v 3)) (aa_nil))) (aa_cons (ae_tup (aa_cons (ae_cut (K := K) (ae_v 2) ao_none (ao_some (ae_int))) (aa_nil))) (aa_cons (ae_tup (aa_cons (ae_non) (aa_nil))) (aa_cons (ae_tup (aa_cons (ae_int) (aa_nil))) (aa_cons (ae_tup (aa_cons (ae_bl) (aa_nil))) (aa_nil))))))))))) rfl (.inl rfl))
      (ass_cons (as_set 5 sc_law_words.nd (ae_op (ao_add (K := K)) (ae_v 5) (ae_lst (aa_cons (ae_tup (aa_cons (ae_tup (aa_cons (ae_v 2) (aa_nil))) (aa_nil))) (aa_cons (ae_tup (aa_cons (ae_lst (aa_cons (ae_v 2) (aa_nil))) (aa_nil))) (aa_cons (ae_tup (aa_cons (ae_op (ao_add (K := K)) (ae_cut (K := K) (ae_v 2) ao_none (ao_some (ae_int))) (ae_v 4)) (aa_nil))) (aa_cons (ae_tup (aa_cons (ae_op ao_mulS (ae_v 3) (ae_int)) (aa_nil))) (aa_cons (ae_tup (aa_cons (ae_op (ao_add (K := K)) (ae_v 2) (ae_str)) (aa_nil))) (aa_cons (ae_tup (aa_cons (ae_cut (K := K) (ae_v 2) ao_none (ao_some (ae_int))) (aa_cons (ae_cut (K := K) (ae_v 2) ao_none (ao_some (ae_int))) (aa_nil)))) (aa_nil))))))))) rfl (.inl rfl))
      (ass_one (as_ret (ae_ix (K := K) (ae_v 5) (ae_call (K := K) (g := ⟨w, mg⟩) c_law_draw hr hgd (aa_cons (ae_v 0) (aa_cons (ae_callB (ac_len (K := K)) m_len (by decide +kernel) (aa_cons (ae_v 5) (aa_nil))) (aa_nil))))))))))⟩
abbrev st_is_word : Stmt := topS 4
theorem sc_is_word : FnScope ["tongue", "thing"] ["tongue", "thing"] (defScope st_is_word) := ⟨rfl, rfl, rfl, by decide +kernel, rfl, by decide +kernel, by decide +kernel⟩
theorem ok_is_word {P : Program} {w : World} {K : PySem.W.Frag} {mg : Str → Option Value} {base : Heap} {f : Addr} {fd : FuncData} (F : L2.Fun K "is_word" "is_word" st_is_word f fd) (hm : mg "is_word" = some (.ref f)) (hb : Binds K fd ["tongue", "thing"] []) (m_isinstance : mg "isinstance" = none) (m_len : mg "len" = none) (m_str : mg "str" = none) (g_MOST_LONG : ∃ u, mg "MOST_LONG" = some u ∧ RelV (.int 60) u) (c_has_signs : Cal P w K mg base 2 "has_signs" 2 s_has_signs) : Cal P w K mg base 3 "is_word" 2 s_is_word := by
  refine calA (b := a_is_word) F sc_is_word rfl hm hb ?_ (fun _ _ _ _ h => h)
  intro cdv A outer s H E hr hgd
  have hw : (Bs.nil ⟨w, mg⟩).g = ⟨w, mg⟩ := rfl
  exact ⟨_, ass_one (as_ret (ae_and (K := K) (ae_isi (K := K) (ae_v 1) m_isinstance m_str (by decide +kernel)) (ae_and (K := K) (ae_cmp ao_le (ae_callB (ac_len (K := K)) m_len (by decide +kernel) (aa_cons (ae_v 1) (aa_nil))) (ae_gint g_MOST_LONG)) (ae_one (ae_call (K := K) (g := ⟨w, mg⟩) c_has_signs hr hgd (aa_cons (ae_v 0) (aa_cons (ae_v 1) (aa_nil))))))))⟩
abbrev st_law_part : Stmt := topS 15
theorem sc_law_part : FnScope ["_law_pen_here", "_law_tongue_here", "_law_most", "_law_size", "_law_free", "_law_part_here", "_law_k", "_law_word", "_law_good", "_law_one"] ["_law_pen_here", "_law_tongue_here", "_law_most", "_law_size", "_law_free"] (defScope st_law_part) := ⟨rfl, rfl, rfl, by decide +kernel, rfl, by decide +kernel, by decide +kernel⟩
theorem ok_law_part {P : Program} {w : World} {K : PySem.W.Frag} {mg : Str → Option Value} {base : Heap} {f : Addr} {fd : FuncData} (F : L2.Fun K "_law_part" "_law_part" st_law_part f fd) (hm : mg "_law_part" = some (.ref f)) (hb : Binds K fd ["_law_pen_here", "_law_tongue_here", "_law_most", "_law_size", "_law_free"] []) (m_range : mg "range" = none) (m_tuple : mg "tuple" = none) (c_law_text : Cal P w K mg base 2 "_law_text" 3 s_law_text) : Cal P w K mg base 3 "_law_part" 5 s_law_part := by
  refine calA (b := a_law_part) F sc_law_part rfl hm hb ?_ (fun _ _ _ _ h => h)
  intro cdv A outer s H E hr hgd
  have hw : (Bs.nil ⟨w, mg⟩).g = ⟨w, mg⟩ := rfl
  exact ⟨_, ass_cons (as_set 5 sc_law_part.nd (ae_lstM (aa_nil)) rfl (.inl rfl))
      (ass_cons (as_for (ai_range1 m_range (aa_cons (ae_v 2) (aa_nil))) (ag_name 6 (vs := [6]) sc_law_part.nd rfl (.inl rfl))
      (ass_cons (as_set 7 sc_law_part.nd (ae_call (K := K) (g := ⟨w, mg⟩) c_law_text hr hgd (aa_cons (ae_v 0) (aa_cons (ae_v 1) (aa_cons (ae_v 3) (aa_nil))))) rfl (.inr rfl))
      (ass_cons (as_set 8 sc_law_part.nd (ae_cmp ao_ninL (ae_v 7) (ae_v 5)) rfl (.inl rfl))
      (ass_cons (as_if (at_not (at_tru (K := K) (ae_v 4)))
      (ass_one (as_set 8 sc_law_part.nd (ae_cmp (ao_eqNil (K := K) hr.units) (ae_lc [("_law_one", 9)] sc_law_part.nd (ai_list (K := K) (ae_v 5)) (blkOk_by (own := [("_law_one", 9)]) (N := ["_law_pen_here", "_law_tongue_here", "_law_most", "_law_size", "_law_free", "_law_part_here", "_law_k", "_law_word", "_law_good", "_law_one"]) (sc := defScope st_law_part) (by decide +kernel)) (fun _ _ _ _ _ => ag_name 9 (vs := [9]) sc_law_part.nd rfl (.inl rfl)) (fun _ _ _ _ _ => ats_one (aw_t (aw_or (at_tru (K := K) (ae_meth (K := K) PySem.F.plainAttrs_str PySem.F.slot_str_startswith PySem.F.type_str_startswith am_startswith (ae_v 9) (aa_cons (ae_v 7) (aa_nil)))) (aw_or1 (at_tru (K := K) (ae_meth (K := K) PySem.F.plainAttrs_str PySem.F.slot_str_startswith PySem.F.type_str_startswith am_startswith (ae_v 7) (aa_cons (ae_v 9) (aa_nil)))))))) (fun _ _ _ _ _ => ae_v 9)) (ae_lst (aa_nil))) rfl (.inl rfl)))
      (ass_nil))
      (ass_one (as_if (at_tru (K := K) (ae_v 8))
      (ass_one (as_expr (ae_meth (K := K) PySem.F.plainAttrs_list PySem.F.slot_list_append PySem.F.type_list_append am_append (ae_v 5) (aa_cons (ae_v 7) (aa_nil)))))
      (ass_nil)))))))
      (ass_frz 5 (ass_one (as_ret (ae_callT (ac_tuple (K := K)) m_tuple (by decide +kernel) (aa_cons (ae_v 5) (aa_nil)))))))⟩
abbrev st_law_is_plan : Stmt := topS 19
theorem sc_law_is_plan : FnScope ["_law_tongue_here", "_law_plan", "_law_step_here"] ["_law_tongue_here", "_law_plan"] (defScope st_law_is_plan) := ⟨rfl, rfl, rfl, by decide +kernel, rfl, by decide +kernel, by decide +kernel⟩
theorem ok_law_is_plan {P : Program} {w : World} {K : PySem.W.Frag} {mg : Str → Option Value} {base : Heap} {f : Addr} {fd : FuncData} (F : L2.Fun K "_law_is_plan" "_law_is_plan" st_law_is_plan f fd) (hm : mg "_law_is_plan" = some (.ref f)) (hb : Binds K fd ["_law_tongue_here", "_law_plan"] []) (m_isinstance : mg "isinstance" = none) (m_len : mg "len" = none) (m_tuple : mg "tuple" = none) (c_law_is_step : Cal P w K mg base 2 "_law_is_step" 2 s_law_is_step) : Cal P w K mg base 3 "_law_is_plan" 2 s_law_is_plan := by
  refine calA (b := a_law_is_plan) F sc_law_is_plan rfl hm hb ?_ (fun _ _ _ _ h => h)
  intro cdv A outer s H E hr hgd
  have hw : (Bs.nil ⟨w, mg⟩).g = ⟨w, mg⟩ := rfl
  exact ⟨_, ass_cons (as_if (aw_t (aw_or (at_not (at_tru (K := K) (ae_isi (K := K) (ae_v 1) m_isinstance m_tuple (by decide +kernel)))) (aw_or1 (at_cmp ao_gt (ae_callB (ac_len (K := K)) m_len (by decide +kernel) (aa_cons (ae_v 1) (aa_nil))) (ae_int)))))
      (ass_one (as_ret (ae_bl)))
      (ass_nil))
      (ass_one (as_ret (ae_cmp (ao_eqNil (K := K) hr.units) (ae_lc [("_law_step_here", 2)] sc_law_is_plan.nd (ai_tup (K := K) (ae_v 1)) (blkOk_by (own := [("_law_step_here", 2)]) (N := ["_law_tongue_here", "_law_plan", "_law_step_here"]) (sc := defScope st_law_is_plan) (by decide +kernel)) (fun _ _ _ _ _ => ag_name 2 (vs := [2]) sc_law_is_plan.nd rfl (.inl rfl)) (fun _ _ _ _ _ => ats_one (at_not (at_tru (K := K) (ae_call (K := K) (g := ⟨w, mg⟩) c_law_is_step hr hgd (aa_cons (ae_v 0) (aa_cons (ae_v 2) (aa_nil))))))) (fun _ _ _ _ _ => ae_v 2)) (ae_lst (aa_nil)))))⟩
abbrev st_law_otherwise : Stmt := topS 21
theorem sc_law_otherwise : FnScope ["_law_pen_here", "_law_tongue_here", "_law_step_here", "_law_way", "_law_at", "_law_part_here", "_law_word", "_law_spot", "_law_signs", "_law_k"] ["_law_pen_here", "_law_tongue_here", "_law_step_here"] (defScope st_law_otherwise) := ⟨rfl, rfl, rfl, by decide +kernel, rfl, by decide +kernel, by decide +kernel⟩
theorem ok_law_otherwise {P : Program} {w : World} {K : PySem.W.Frag} {mg : Str → Option Value} {base : Heap} {f : Addr} {fd : FuncData} (F : L2.Fun K "_law_otherwise" "_law_otherwise" st_law_otherwise f fd) (hm : mg "_law_otherwise" = some (.ref f)) (hb : Binds K fd ["_law_pen_here", "_law_tongue_here", "_law_step_here"] []) (m_len : mg "len" = none) (m_list : mg "list" = none) (m_range : mg "range" = none) (m_tuple : mg "tuple" = none) (c_law_draw : Cal P w K mg base 1 "_law_draw" 2 s_law_draw) (c_law_text : Cal P w K mg base 2 "_law_text" 3 s_law_text) (c_law_words : Cal P w K mg base 2 "_law_words" 3 s_law_words) : Cal P w K mg base 3 "_law_otherwise" 3 s_law_otherwise := by
  refine calA (b := a_law_otherwise) F sc_law_otherwise rfl hm hb ?_ (fun _ _ _ _ h => h)
  intro cdv A outer s H E hr hgd
  have hw : (Bs.nil ⟨w, mg⟩).g = ⟨w, mg⟩ := rfl
  exact ⟨_, ass_cons (as_set 3 sc_law_otherwise.nd (ae_call (K := K) (g := ⟨w, mg⟩) c_law_draw hr hgd (aa_cons (ae_v 0) (aa_cons (ae_int) (aa_nil)))) rfl (.inl rfl))
      (ass_cons (as_set 4 sc_law_otherwise.nd (ae_call (K := K) (g := ⟨w, mg⟩) c_law_draw hr hgd (aa_cons (ae_v 0) (aa_cons (ae_callB (ac_len (K := K)) m_len (by decide +kernel) (aa_cons (ae_v 2) (aa_nil))) (aa_nil)))) rfl (.inl rfl))
      (ass_cons (as_set 5 sc_law_otherwise.nd (ae_ix (K := K) (ae_v 2) (ae_v 4)) rfl (.inl rfl))
      (ass_cons (as_if (at_cmp ao_lt (ae_v 3) (ae_int))
      (ass_cons (as_set 6 sc_law_otherwise.nd (ae_ix (K := K) (ae_op (ao_add (K := K)) (ae_v 5) (ae_tup (aa_cons (ae_call (K := K) (g := ⟨w, mg⟩) c_law_text hr hgd (aa_cons (ae_v 0) (aa_cons (ae_v 1) (aa_cons (ae_int) (aa_nil))))) (aa_nil)))) (ae_int)) rfl (.inl rfl))
      (ass_cons (as_set 7 sc_law_otherwise.nd (ae_call (K := K) (g := ⟨w, mg⟩) c_law_draw hr hgd (aa_cons (ae_v 0) (aa_cons (ae_op (ao_add (K := K)) (ae_callB (ac_len (K := K)) m_len (by decide +kernel) (aa_cons (ae_v 5) (aa_nil))) (ae_int)) (aa_nil)))) rfl (.inl rfl))
      (ass_one (as_set 5 sc_law_otherwise.nd (ae_op (ao_add (K := K)) (ae_op (ao_add (K := K)) (ae_cut (K := K) (ae_v 5) ao_none (ao_some (ae_v 7))) (ae_call (K := K) (g := ⟨w, mg⟩) c_law_words hr hgd (aa_cons (ae_v 0) (aa_cons (ae_v 1) (aa_cons (ae_v 6) (aa_nil)))))) (ae_cut (K := K) (ae_v 5) (ao_some (ae_v 7)) ao_none)) rfl (.inl rfl)))))
      (ass_one (as_if (at_cmp (ao_eq (K := K) hr.units) (ae_v 3) (ae_int))
      (ass_one (as_set 5 sc_law_otherwise.nd (ae_ix (K := K) (ae_lst (aa_cons (ae_callT (ac_list (K := K)) m_list (by decide +kernel) (aa_cons (ae_v 5) (aa_nil))) (aa_cons (ae_meth (K := K) PySem.F.plainAttrs_str PySem.F.slot_str_join PySem.F.type_str_join (am_join (K := K)) (ae_str) (aa_cons (ae_v 5) (aa_nil))) (aa_cons (ae_non) (aa_cons (ae_op (ao_repT (K := K)) (ae_cut (K := K) (ae_v 5) ao_none (ao_some (ae_int))) (ae_int)) (aa_cons (ae_int) (aa_cons (ae_dict0F) (aa_nil)))))))) (ae_call (K := K) (g := ⟨w, mg⟩) c_law_draw hr hgd (aa_cons (ae_v 0) (aa_cons (ae_int) (aa_nil))))) rfl (.inl rfl)))
      (ass_one (as_if (at_cmp (ao_eq (K := K) hr.units) (ae_v 3) (ae_int))
      (ass_cons (as_set 8 sc_law_otherwise.nd (ae_meth (K := K) PySem.F.plainAttrs_str PySem.F.slot_str_join PySem.F.type_str_join (am_join (K := K)) (ae_str) (aa_cons (ae_v 1) (aa_nil))) rfl (.inr rfl))
      (ass_one (as_set 5 sc_law_otherwise.nd (ae_callT (ac_tuple (K := K)) m_tuple (by decide +kernel) (aa_cons (ae_lc [("_law_k", 9)] sc_law_otherwise.nd (ai_range1 m_range (aa_cons (ae_op (ao_add (K := K)) (ae_int) (ae_call (K := K) (g := ⟨w, mg⟩) c_law_draw hr hgd (aa_cons (ae_v 0) (aa_cons (ae_int) (aa_nil))))) (aa_nil))) (blkOk_by (own := [("_law_k", 9)]) (N := ["_law_pen_here", "_law_tongue_here", "_law_step_here", "_law_way", "_law_at", "_law_part_here", "_law_word", "_law_spot", "_law_signs", "_law_k"]) (sc := defScope st_law_otherwise) (by decide +kernel)) (fun _ _ _ _ _ => ag_name 9 (vs := [9]) sc_law_otherwise.nd rfl (.inl rfl)) (fun _ _ _ _ _ => ats_nil) (fun _ _ _ _ _ => ae_cut (K := K) (ae_op ao_mulSI (ae_int) (ae_v 8)) (ao_some (ae_op ao_mod (ae_v 9) (ae_int))) (ao_some (ae_op (ao_add (K := K)) (ae_op (ao_add (K := K)) (ae_op ao_mod (ae_v 9) (ae_int)) (ae_int)) (ae_op ao_div (ae_v 9) (ae_int)))))) (aa_nil))) rfl (.inl rfl))))
      (ass_one (as_if (at_cmp (ao_eq (K := K) hr.units) (ae_v 3) (ae_int))
      (ass_one (as_ret (ae_ix (K := K) (ae_lst (aa_cons (ae_tup (aa_nil)) (aa_cons (ae_callT (ac_list (K := K)) m_list (by decide +kernel) (aa_cons (ae_v 2) (aa_nil))) (aa_cons (ae_op (ao_add (K := K)) (ae_v 2) (ae_op (ao_repT (K := K)) (ae_tup (aa_cons (ae_tup (aa_nil)) (aa_nil))) (ae_op ao_sub (ae_int) (ae_callB (ac_len (K := K)) m_len (by decide +kernel) (aa_cons (ae_v 2) (aa_nil)))))) (aa_cons (ae_ix (K := K) (ae_v 2) (ae_int)) (aa_cons (ae_non) (aa_cons (ae_str) (aa_cons (ae_op (ao_repT (K := K)) (ae_tup (aa_cons (ae_tup (aa_nil)) (aa_nil))) (ae_int)) (aa_nil))))))))) (ae_call (K := K) (g := ⟨w, mg⟩) c_law_draw hr hgd (aa_cons (ae_v 0) (aa_cons (ae_int) (aa_nil)))))))
      (ass_one (as_ret (ae_op (ao_add (K := K)) (ae_cut (K := K) (ae_v 2) (ao_some (ae_v 4)) ao_none) (ae_cut (K := K) (ae_v 2) ao_none (ao_some (ae_v 4)))))))))))))
      (ass_one (as_ret (ae_op (ao_add (K := K)) (ae_op (ao_add (K := K)) (ae_cut (K := K) (ae_v 2) ao_none (ao_some (ae_v 4))) (ae_tup (aa_cons (ae_v 5) (aa_nil)))) (ae_cut (K := K) (ae_v 2) (ao_some (ae_op (ao_add (K := K)) (ae_v 4) (ae_int))) ao_none)))))))⟩
abbrev st_is_part : Stmt := topS 7
theorem sc_is_part : FnScope ["tongue", "thing", "at", "word"] ["tongue", "thing"] (defScope st_is_part) := ⟨rfl, rfl, rfl, by decide +kernel, rfl, by decide +kernel, by decide +kernel⟩
theorem ok_is_part {P : Program} {w : World} {K : PySem.W.Frag} {mg : Str → Option Value} {base : Heap} {f : Addr} {fd : FuncData} (F : L2.Fun K "is_part" "is_part" st_is_part f fd) (hm : mg "is_part" = some (.ref f)) (hb : Binds K fd ["tongue", "thing"] []) (m_enumerate : mg "enumerate" = none) (m_isinstance : mg "isinstance" = none) (m_len : mg "len" = none) (m_tuple : mg "tuple" = none) (c_is_word : Cal P w K mg base 3 "is_word" 2 s_is_word) : Cal P w K mg base 4 "is_part" 2 s_is_part := by
  refine calA (b := a_is_part) F sc_is_part rfl hm hb ?_ (fun _ _ _ _ h => h)
  intro cdv A outer s H E hr hgd
  have hw : (Bs.nil ⟨w, mg⟩).g = ⟨w, mg⟩ := rfl
  exact ⟨_, ass_cons (as_if (aw_t (aw_or (at_not (at_tru (K := K) (ae_isi (K := K) (ae_v 1) m_isinstance m_tuple (by decide +kernel)))) (aw_or1 (at_cmp ao_gt (ae_callB (ac_len (K := K)) m_len (by decide +kernel) (aa_cons (ae_v 1) (aa_nil))) (ae_int)))))
      (ass_one (as_ret (ae_bl)))
      (ass_nil))
      (ass_cons (as_for (ai_enumG (K := K) m_enumerate (aa_cons (ae_v 1) (aa_nil))) (ag_tup (K := K) (ags_cons (ag_name 2 (vs := [2, 3]) sc_is_part.nd rfl (.inl rfl)) (ags_cons (ag_name 3 (vs := [2, 3]) sc_is_part.nd rfl (.inl rfl)) (ags_nil))))
      (ass_one (as_if (aw_t (aw_or (at_not (at_tru (K := K) (ae_call (K := K) (g := ⟨w, mg⟩) c_is_word hr hgd (aa_cons (ae_v 0) (aa_cons (ae_v 3) (aa_nil)))))) (aw_or (at_not (at_chain ao_le ao_le (ae_int) (ae_callB (ac_len (K := K)) m_len (by decide +kernel) (aa_cons (ae_v 3) (aa_nil))) (ae_int))) (aw_or1 (at_cmp ao_inL (ae_v 3) (ae_cut (K := K) (ae_v 1) ao_none (ao_some (ae_v 2))))))))
      (ass_one (as_ret (ae_bl)))
      (ass_nil))))
      (ass_one (as_ret (ae_bl))))⟩
abbrev st_law_step : Stmt := topS 16
theorem sc_law_step : FnScope ["_law_pen_here", "_law_tongue_here", "_law_parts", "_law_most", "_law_size", "_law_many", "_law_step_here", "_law_k", "_law_tall"] ["_law_pen_here", "_law_tongue_here", "_law_parts", "_law_most", "_law_size"] (defScope st_law_step) := ⟨rfl, rfl, rfl, by decide +kernel, rfl, by decide +kernel, by decide +kernel⟩
theorem ok_law_step {P : Program} {w : World} {K : PySem.W.Frag} {mg : Str → Option Value} {base : Heap} {f : Addr} {fd : FuncData} (F : L2.Fun K "_law_step" "_law_step" st_law_step f fd) (hm : mg "_law_step" = some (.ref f)) (hb : Binds K fd ["_law_pen_here", "_law_tongue_here", "_law_parts", "_law_most", "_law_size"] []) (m_range : mg "range" = none) (m_tuple : mg "tuple" = none) (c_law_draw : Cal P w K mg base 1 "_law_draw" 2 s_law_draw) (c_law_part : Cal P w K mg base 3 "_law_part" 5 s_law_part) : Cal P w K mg base 4 "_law_step" 5 s_law_step := by
  refine calA (b := a_law_step) F sc_law_step rfl hm hb ?_ (fun _ _ _ _ h => h)
  intro cdv A outer s H E hr hgd
  have hw : (Bs.nil ⟨w, mg⟩).g = ⟨w, mg⟩ := rfl
  exact ⟨_, ass_cons (as_set 5 sc_law_step.nd (ae_op (ao_add (K := K)) (ae_int) (ae_call (K := K) (g := ⟨w, mg⟩) c_law_draw hr hgd (aa_cons (ae_v 0) (aa_cons (ae_v 2) (aa_nil))))) rfl (.inl rfl))
      (ass_cons (as_set 6 sc_law_step.nd (ae_lstM (aa_nil)) rfl (.inl rfl))
      (ass_cons (as_for (ai_range1 m_range (aa_cons (ae_v 5) (aa_nil))) (ag_name 7 (vs := [7]) sc_law_step.nd rfl (.inl rfl))
      (ass_cons (as_set 8 sc_law_step.nd (ae_op (ao_add (K := K)) (ae_int) (ae_call (K := K) (g := ⟨w, mg⟩) c_law_draw hr hgd (aa_cons (ae_v 0) (aa_cons (ae_v 4) (aa_nil))))) rfl (.inl rfl))
      (ass_one (as_expr (ae_meth (K := K) PySem.F.plainAttrs_list PySem.F.slot_list_append PySem.F.type_list_append am_append (ae_v 6) (aa_cons (ae_call (K := K) (g := ⟨w, mg⟩) c_law_part hr hgd (aa_cons (ae_v 0) (aa_cons (ae_v 1) (aa_cons (ae_call (K := K) (g := ⟨w, mg⟩) c_law_draw hr hgd (aa_cons (ae_v 0) (aa_cons (ae_op (ao_add (K := K)) (ae_v 3) (ae_int)) (aa_nil)))) (aa_cons (ae_v 8) (aa_cons (ae_cmp (ao_eq (K := K) hr.units) (ae_v 7) (ae_op ao_sub (ae_v 5) (ae_int))) (aa_nil))))))) (aa_nil)))))))
      (ass_frz 6 (ass_one (as_ret (ae_callT (ac_tuple (K := K)) m_tuple (by decide +kernel) (aa_cons (ae_v 6) (aa_nil))))))))⟩
abbrev st_is_step : Stmt := topS 8
theorem sc_is_step : FnScope ["tongue", "thing", "part"] ["tongue", "thing"] (defScope st_is_step) := ⟨rfl, rfl, rfl, by decide +kernel, rfl, by decide +kernel, by decide +kernel⟩
theorem ok_is_step {P : Program} {w : World} {K : PySem.W.Frag} {mg : Str → Option Value} {base : Heap} {f : Addr} {fd : FuncData} (F : L2.Fun K "is_step" "is_step" st_is_step f fd) (hm : mg "is_step" = some (.ref f)) (hb : Binds K fd ["tongue", "thing"] []) (m_any : mg "any" = none) (m_isinstance : mg "isinstance" = none) (m_len : mg "len" = none) (m_tuple : mg "tuple" = none) (c_begins_another : Cal P w K mg base 1 "begins_another" 1 s_begins_another) (c_is_part : Cal P w K mg base 4 "is_part" 2 s_is_part) : Cal P w K mg base 5 "is_step" 2 s_is_step := by
  refine calA (b := a_is_step) F sc_is_step rfl hm hb ?_ (fun _ _ _ _ h => h)
  intro cdv A outer s H E hr hgd
  have hw : (Bs.nil ⟨w, mg⟩).g = ⟨w, mg⟩ := rfl
  exact ⟨_, ass_cons (as_if (aw_t (aw_or (at_not (at_tru (K := K) (ae_isi (K := K) (ae_v 1) m_isinstance m_tuple (by decide +kernel)))) (aw_or1 (at_not (at_chain ao_le ao_le (ae_int) (ae_callB (ac_len (K := K)) m_len (by decide +kernel) (aa_cons (ae_v 1) (aa_nil))) (ae_int))))))
      (ass_one (as_ret (ae_bl)))
      (ass_nil))
      (ass_cons (as_for (ai_tup (K := K) (ae_v 1)) (ag_name 2 (vs := [2]) sc_is_step.nd rfl (.inl rfl))
      (ass_one (as_if (at_not (at_tru (K := K) (ae_call (K := K) (g := ⟨w, mg⟩) c_is_part hr hgd (aa_cons (ae_v 0) (aa_cons (ae_v 2) (aa_nil))))))
      (ass_one (as_ret (ae_bl)))
      (ass_nil))))
      (ass_one (as_ret (ae_not (K := K) (ae_callB (ac_any (K := K)) m_any (by decide +kernel) (aa_cons (ae_lc [("part", 2)] sc_is_step.nd (ai_tup (K := K) (ae_cut (K := K) (ae_v 1) ao_none (ao_some (ae_neg (ae_int))))) (blkOk_by (own := [("part", 2)]) (N := ["tongue", "thing", "part"]) (sc := defScope st_is_step) (by decide +kernel)) (fun _ _ _ _ _ => ag_name 2 (vs := [2]) sc_is_step.nd rfl (.inl rfl)) (fun _ _ _ _ _ => ats_nil) (fun _ _ _ _ _ => ae_call (K := K) (g := ⟨w, mg⟩) c_begins_another hr hgd (aa_cons (ae_v 2) (aa_nil)))) (aa_nil)))))))⟩
abbrev st_is_plan : Stmt := topS 9
theorem sc_is_plan : FnScope ["tongue", "thing", "step"] ["tongue", "thing"] (defScope st_is_plan) := ⟨rfl, rfl, rfl, by decide +kernel, rfl, by decide +kernel, by decide +kernel⟩
theorem ok_is_plan {P : Program} {w : World} {K : PySem.W.Frag} {mg : Str → Option Value} {base : Heap} {f : Addr} {fd : FuncData} (F : L2.Fun K "is_plan" "is_plan" st_is_plan f fd) (hm : mg "is_plan" = some (.ref f)) (hb : Binds K fd ["tongue", "thing"] []) (m_all : mg "all" = none) (m_isinstance : mg "isinstance" = none) (m_len : mg "len" = none) (m_tuple : mg "tuple" = none) (c_is_step : Cal P w K mg base 5 "is_step" 2 s_is_step) : Cal P w K mg base 6 "is_plan" 2 s_is_plan := by
  refine calA (b := a_is_plan) F sc_is_plan rfl hm hb ?_ (fun _ _ _ _ h => h)
  intro cdv A outer s H E hr hgd
  have hw : (Bs.nil ⟨w, mg⟩).g = ⟨w, mg⟩ := rfl
  exact ⟨_, ass_cons (as_if (aw_t (aw_or (at_not (at_tru (K := K) (ae_isi (K := K) (ae_v 1) m_isinstance m_tuple (by decide +kernel)))) (aw_or1 (at_cmp ao_gt (ae_callB (ac_len (K := K)) m_len (by decide +kernel) (aa_cons (ae_v 1) (aa_nil))) (ae_int)))))
      (ass_one (as_ret (ae_bl)))
      (ass_nil))
      (ass_one (as_ret (ae_callB (ac_all (K := K)) m_all (by decide +kernel) (aa_cons (ae_lc [("step", 2)] sc_is_plan.nd (ai_tup (K := K) (ae_v 1)) (blkOk_by (own := [("step", 2)]) (N := ["tongue", "thing", "step"]) (sc := defScope st_is_plan) (by decide +kernel)) (fun _ _ _ _ _ => ag_name 2 (vs := [2]) sc_is_plan.nd rfl (.inl rfl)) (fun _ _ _ _ _ => ats_nil) (fun _ _ _ _ _ => ae_call (K := K) (g := ⟨w, mg⟩) c_is_step hr hgd (aa_cons (ae_v 0) (aa_cons (ae_v 2) (aa_nil))))) (aa_nil)))))⟩
abbrev st_law_asked : Stmt := topS 22
theorem sc_law_asked : FnScope ["_law_tongue_here", "_law_step_here", "_law_plan", "_law_told"] ["_law_tongue_here", "_law_step_here", "_law_plan"] (defScope st_law_asked) := ⟨rfl, rfl, rfl, by decide +kernel, rfl, by decide +kernel, by decide +kernel⟩
theorem ok_law_asked {P : Program} {w : World} {K : PySem.W.Frag} {mg : Str → Option Value} {base : Heap} {f : Addr} {fd : FuncData} (F : L2.Fun K "_law_asked" "_law_asked" st_law_asked f fd) (hm : mg "_law_asked" = some (.ref f)) (hb : Binds K fd ["_law_tongue_here", "_law_step_here", "_law_plan"] []) (m_bool : mg "bool" = none) (m_isinstance : mg "isinstance" = none) (c_law_is_step : Cal P w K mg base 2 "_law_is_step" 2 s_law_is_step) (c_law_is_plan : Cal P w K mg base 3 "_law_is_plan" 2 s_law_is_plan) (c_is_step : Cal P w K mg base 5 "is_step" 2 s_is_step) (c_is_plan : Cal P w K mg base 6 "is_plan" 2 s_is_plan) : Cal P w K mg base 7 "_law_asked" 3 s_law_asked := by
  refine calA (b := a_law_asked) F sc_law_asked rfl hm hb ?_ (fun _ _ _ _ h => h)
  intro cdv A outer s H E hr hgd
  have hw : (Bs.nil ⟨w, mg⟩).g = ⟨w, mg⟩ := rfl
  exact ⟨_, ass_cons (as_set 3 sc_law_asked.nd (ae_tup (aa_cons (ae_call (K := K) (g := ⟨w, mg⟩) c_is_step hr hgd (aa_cons (ae_v 0) (aa_cons (ae_v 1) (aa_nil)))) (aa_cons (ae_call (K := K) (g := ⟨w, mg⟩) c_is_plan hr hgd (aa_cons (ae_v 0) (aa_cons (ae_v 2) (aa_nil)))) (aa_nil)))) rfl (.inl rfl))
      (ass_cons (as_if (aw_t (aw_or (at_not (at_tru (K := K) (ae_isi (K := K) (ae_ix (K := K) (ae_v 3) (ae_int)) m_isinstance m_bool (by decide +kernel)))) (aw_or1 (at_not (at_tru (K := K) (ae_isi (K := K) (ae_ix (K := K) (ae_v 3) (ae_int)) m_isinstance m_bool (by decide +kernel)))))))
      (ass_one (as_ret (ae_bl)))
      (ass_nil))
      (ass_one (as_ret (ae_cmp (ao_eq (K := K) hr.units) (ae_v 3) (ae_tup (aa_cons (ae_call (K := K) (g := ⟨w, mg⟩) c_law_is_step hr hgd (aa_cons (ae_v 0) (aa_cons (ae_v 1) (aa_nil)))) (aa_cons (ae_call (K := K) (g := ⟨w, mg⟩) c_law_is_plan hr hgd (aa_cons (ae_v 0) (aa_cons (ae_v 2) (aa_nil)))) (aa_nil))))))))⟩
abbrev st_law : Stmt := topS 23
theorem sc_law : FnScope ["_law_script", "_law_k", "_law_pen_here", "_law_tongue_here", "_law_size", "_law_most", "_law_turn", "_law_plan", "_law_step_here", "_law_other", "_law_bare", "_law_thing", "_law_sign"] ["_law_script"] (defScope st_law) := ⟨rfl, rfl, rfl, by decide +kernel, rfl, by decide +kernel, by decide +kernel⟩
theorem okF_law {P : Program} {w : World} {K : PySem.W.Frag} {mg : Str → Option Value} {base : Heap} {f : Addr} {fd : FuncData} (F : L2.Fun K "law" "law" st_law f fd) (m_len : mg "len" = none) (m_list : mg "list" = none) (m_range : mg "range" = none) (m_tuple : mg "tuple" = none) (c_law_pen : Cal P w K mg base 1 "_law_pen" 2 s_law_pen) (c_law_draw : Cal P w K mg base 1 "_law_draw" 2 s_law_draw) (c_law_tongue : Cal P w K mg base 2 "_law_tongue" 2 s_law_tongue) (c_law_text : Cal P w K mg base 2 "_law_text" 3 s_law_text) (c_law_otherwise : Cal P w K mg base 3 "_law_otherwise" 3 s_law_otherwise) (c_law_step : Cal P w K mg base 4 "_law_step" 5 s_law_step) (c_is_step : Cal P w K mg base 5 "is_step" 2 s_is_step) (c_is_plan : Cal P w K mg base 6 "is_plan" 2 s_is_plan) (c_law_asked : Cal P w K mg base 7 "_law_asked" 3 s_law_asked) : FnG P w K mg base 8 f fd ["_law_script"] (spOf ⟨w, mg⟩ K 1 s_law) := by
  refine fnA (b := a_law) F sc_law ?_ (fun _ _ _ _ h => h)
  intro cdv A outer s H E hr hgd
  have hw : (Bs.nil ⟨w, mg⟩).g = ⟨w, mg⟩ := rfl
  exact ⟨_, ass_cons (as_for (ai_range1 m_range (aa_cons (ae_int) (aa_nil))) (ag_name 1 (vs := [1]) sc_law.nd rfl (.inl rfl))
      (ass_cons (as_set 2 sc_law.nd (ae_call (K := K) (g := ⟨w, mg⟩) c_law_pen hr hgd (aa_cons (ae_v 0) (aa_cons (ae_v 1) (aa_nil)))) rfl (.inr rfl))
      (ass_cons (as_set 3 sc_law.nd (ae_call (K := K) (g := ⟨w, mg⟩) c_law_tongue hr hgd (aa_cons (ae_v 2) (aa_cons (ae_int) (aa_nil)))) rfl (.inr rfl))
      (ass_cons (as_set 4 sc_law.nd (ae_op (ao_add (K := K)) (ae_int) (ae_call (K := K) (g := ⟨w, mg⟩) c_law_draw hr hgd (aa_cons (ae_v 2) (aa_cons (ae_int) (aa_nil))))) rfl (.inr rfl))
      (ass_cons (as_set 5 sc_law.nd (ae_ix (K := K) (ae_lst (aa_cons (ae_int) (aa_cons (ae_int) (aa_nil)))) (ae_call (K := K) (g := ⟨w, mg⟩) c_law_draw hr hgd (aa_cons (ae_v 2) (aa_cons (ae_int) (aa_nil))))) rfl (.inr rfl))
      (ass_cons (as_set 7 sc_law.nd (ae_callT (ac_tuple (K := K)) m_tuple (by decide +kernel) (aa_cons (ae_lc [("_law_turn", 6)] sc_law.nd (ai_range1 m_range (aa_cons (ae_call (K := K) (g := ⟨w, mg⟩) c_law_draw hr hgd (aa_cons (ae_v 2) (aa_cons (ae_int) (aa_nil)))) (aa_nil))) (blkOk_by (own := [("_law_turn", 6)]) (N := ["_law_script", "_law_k", "_law_pen_here", "_law_tongue_here", "_law_size", "_law_most", "_law_turn", "_law_plan", "_law_step_here", "_law_other", "_law_bare", "_law_thing", "_law_sign"]) (sc := defScope st_law) (by decide +kernel)) (fun _ _ _ _ _ => ag_name 6 (vs := [6]) sc_law.nd rfl (.inl rfl)) (fun _ _ _ _ _ => ats_nil) (fun _ _ _ _ _ => ae_call (K := K) (g := ⟨w, mg⟩) c_law_step hr hgd (aa_cons (ae_v 2) (aa_cons (ae_v 3) (aa_cons (ae_int) (aa_cons (ae_v 5) (aa_cons (ae_v 4) (aa_nil)))))))) (aa_nil))) rfl (.inl rfl))
      (ass_cons (as_for (ai_tup (K := K) (ae_v 7)) (ag_name 8 (vs := [8]) sc_law.nd rfl (.inl rfl))
      (ass_one (as_if (at_not (at_tru (K := K) (ae_call (K := K) (g := ⟨w, mg⟩) c_is_step hr hgd (aa_cons (ae_v 3) (aa_cons (ae_v 8) (aa_nil))))))
      (ass_one (as_ret (ae_bl)))
      (ass_nil))))
      (ass_cons (as_if (aw_t (aw_or (at_not (at_tru (K := K) (ae_call (K := K) (g := ⟨w, mg⟩) c_is_plan hr hgd (aa_cons (ae_v 3) (aa_cons (ae_v 7) (aa_nil)))))) (aw_or (at_not (at_tru (K := K) (ae_call (K := K) (g := ⟨w, mg⟩) c_is_plan hr hgd (aa_cons (ae_v 3) (aa_cons (ae_tup (aa_nil)) (aa_nil)))))) (aw_or1 (at_tru (K := K) (ae_call (K := K) (g := ⟨w, mg⟩) c_is_plan hr hgd (aa_cons (ae_v 3) (aa_cons (ae_op (ao_add (K := K)) (ae_v 7) (ae_op (ao_repT (K := K)) (ae_tup (aa_cons (ae_tup (aa_cons (ae_tup (aa_nil)) (aa_nil))) (aa_nil))) (ae_op ao_sub (ae_int) (ae_callB (ac_len (K := K)) m_len (by decide +kernel) (aa_cons (ae_v 7) (aa_nil)))))) (aa_nil)))))))))
      (ass_one (as_ret (ae_bl)))
      (ass_nil))
      (ass_cons (as_set 8 sc_law.nd (ae_ix (K := K) (ae_op (ao_add (K := K)) (ae_v 7) (ae_tup (aa_cons (ae_tup (aa_cons (ae_tup (aa_cons (ae_call (K := K) (g := ⟨w, mg⟩) c_law_text hr hgd (aa_cons (ae_v 2) (aa_cons (ae_v 3) (aa_cons (ae_int) (aa_nil))))) (aa_nil))) (aa_nil))) (aa_nil)))) (ae_call (K := K) (g := ⟨w, mg⟩) c_law_draw hr hgd (aa_cons (ae_v 2) (aa_cons (ae_op (ao_add (K := K)) (ae_callB (ac_len (K := K)) m_len (by decide +kernel) (aa_cons (ae_v 7) (aa_nil))) (ae_int)) (aa_nil))))) rfl (.inl rfl))
      (ass_cons (as_for (ai_range1 m_range (aa_cons (ae_int) (aa_nil))) (ag_name 6 (vs := [6]) sc_law.nd rfl (.inl rfl))
      (ass_cons (as_set 9 sc_law.nd (ae_call (K := K) (g := ⟨w, mg⟩) c_law_otherwise hr hgd (aa_cons (ae_v 2) (aa_cons (ae_v 3) (aa_cons (ae_v 8) (aa_nil))))) rfl (.inl rfl))
      (ass_cons (as_if (at_not (at_tru (K := K) (ae_call (K := K) (g := ⟨w, mg⟩) c_law_asked hr hgd (aa_cons (ae_v 3) (aa_cons (ae_v 9) (aa_cons (ae_op (ao_add (K := K)) (ae_cut (K := K) (ae_v 7) ao_none (ao_some (ae_int))) (ae_tup (aa_cons (ae_v 9) (aa_nil)))) (aa_nil)))))))
      (ass_one (as_ret (ae_bl)))
      (ass_nil))
      (ass_one (as_if (at_not (at_tru (K := K) (ae_call (K := K) (g := ⟨w, mg⟩) c_law_asked hr hgd (aa_cons (ae_v 3) (aa_cons (ae_v 9) (aa_cons (ae_op (ao_add (K := K)) (ae_tup (aa_cons (ae_v 9) (aa_nil))) (ae_cut (K := K) (ae_v 7) ao_none (ao_some (ae_int)))) (aa_nil)))))))
      (ass_one (as_ret (ae_bl)))
      (ass_nil))))))
      (ass_cons (as_set 10 sc_law.nd (ae_ix (K := K) (ae_lc [("_law_sign", 12)] sc_law.nd (ai_str (ae_str)) (blkOk_by (own := [("_law_sign", 12)]) (N := ["_law_script", "_law_k", "_law_pen_here", "_law_tongue_here", "_law_size", "_law_most", "_law_turn", "_law_plan", "_law_step_here", "_law_other", "_law_bare", "_law_thing", "_law_sign"]) (sc := defScope st_law) (by decide +kernel)) (fun _ _ _ _ _ => ag_name 12 (vs := [12]) sc_law.nd rfl (.inl rfl)) (fun _ _ _ _ _ => ats_one (at_cmp ao_ninS (ae_v 12) (ae_meth (K := K) PySem.F.plainAttrs_str PySem.F.slot_str_join PySem.F.type_str_join (am_join (K := K)) (ae_str) (aa_cons (ae_v 3) (aa_nil))))) (fun _ _ _ _ _ => ae_v 12)) (ae_int)) rfl (.inl rfl))
      (ass_cons (as_if (aw_t (aw_or (at_not (at_tru (K := K) (ae_call (K := K) (g := ⟨w, mg⟩) c_law_asked hr hgd (aa_cons (ae_tup (aa_cons (ae_v 10) (aa_nil))) (aa_cons (ae_v 8) (aa_cons (ae_v 7) (aa_nil))))))) (aw_or1 (at_not (at_tru (K := K) (ae_call (K := K) (g := ⟨w, mg⟩) c_law_asked hr hgd (aa_cons (ae_v 3) (aa_cons (ae_v 8) (aa_cons (ae_callT (ac_list (K := K)) m_list (by decide +kernel) (aa_cons (ae_v 7) (aa_nil))) (aa_nil))))))))))
      (ass_one (as_ret (ae_bl)))
      (ass_nil))
      (ass_one (as_for (ai_list (K := K) (ae_lst (aa_cons (ae_non) (aa_cons (ae_int) (aa_cons (ae_bl) (aa_cons (ae_str) (aa_cons (ae_str) (aa_cons (ae_lst (aa_nil)) (aa_cons (ae_dict0F) (aa_cons (ae_tup (aa_cons (ae_tup (aa_nil)) (aa_nil))) (aa_cons (ae_tup (aa_cons (ae_tup (aa_nil)) (aa_cons (ae_tup (aa_nil)) (aa_nil)))) (aa_cons (ae_tup (aa_cons (ae_non) (aa_nil))) (aa_cons (ae_tup (aa_cons (ae_str) (aa_nil))) (aa_cons (ae_tup (aa_cons (ae_tup (aa_cons (ae_tup (aa_cons (ae_str) (aa_nil))) (aa_nil))) (aa_cons (ae_non) (aa_nil)))) (aa_nil))))))))))))))) (ag_name 11 (vs := [11]) sc_law.nd rfl (.inl rfl))
      (ass_one (as_if (at_not (at_tru (K := K) (ae_call (K := K) (g := ⟨w, mg⟩) c_law_asked hr hgd (aa_cons (ae_v 3) (aa_cons (ae_v 11) (aa_cons (ae_v 11) (aa_nil)))))))
      (ass_one (as_ret (ae_bl)))
      (ass_nil)))))))))))))))))
      (ass_one (as_ret (ae_bl)))⟩
theorem all_mk {l : PySem.W.OpenLaw} {w : World} {K : PySem.W.Frag} {h : Heap} {mg : Str → Option Value} {fa f1 f2 f3 f4 f5 f6 f7 f8 f9 f10 f11 f12 f13 f14 f15 f16 f17 f18 f19 f20 : Addr} (X : K.In h) (G : h.Ns mainGlobals mg) (hfa : mg "law" = some (.ref fa))
    {od1 an1 od2 an2 od3 an3 od4 an4 od5 an5 od6 an6 od7 an7 od8 an8 od9 an9 od10 an10 od11 an11 od12 an12 od13 an13 od14 an14 od15 an15 od16 an16 od17 an17 od18 an18 od19 an19 od20 an20 : Option Addr} {sl1 sl2 sl3 sl4 sl5 sl6 sl7 sl8 sl9 sl10 sl11 sl12 sl13 sl14 sl15 sl16 sl17 sl18 sl19 sl20 : Array (Option Value)} {oc1 kV1 dc1 pm1 cd1 ct1 oc2 kV2 dc2 pm2 cd2 ct2 oc3 kV3 dc3 pm3 cd3 ct3 oc4 kV4 dc4 pm4 cd4 ct4 oc5 kV5 dc5 pm5 cd5 ct5 oc6 kV6 dc6 pm6 cd6 ct6 oc7 kV7 dc7 pm7 cd7 ct7 oc8 kV8 dc8 pm8 cd8 ct8 oc9 kV9 dc9 pm9 cd9 ct9 oc10 kV10 dc10 pm10 cd10 ct10 oc11 kV11 dc11 pm11 cd11 ct11 oc12 kV12 dc12 pm12 cd12 ct12 oc13 kV13 dc13 pm13 cd13 ct13 oc14 kV14 dc14 pm14 cd14 ct14 oc15 kV15 dc15 pm15 cd15 ct15 oc16 kV16 dc16 pm16 cd16 ct16 oc17 kV17 dc17 pm17 cd17 ct17 oc18 kV18 dc18 pm18 cd18 ct18 oc19 kV19 dc19 pm19 cd19 ct19 oc20 kV20 dc20 pm20 cd20 ct20 : Value} {t0 : Tok}
    (a1 : PySem.W.nsIn K mainGlobals "signs_of" = some (some (.ref f1))) (l1 : K.lookup f1 = some ⟨oc1, od1, .func (PySem.W.fnOf "signs_of" "signs_of" (defArgs st_signs_of) (defBody st_signs_of) (defScope st_signs_of) .none kV1 dc1 pm1 an1 cd1 ct1), sl1⟩) (c1 : PySem.W.codeIn K cd1 "signs_of" = true) (k1 : PySem.W.keepIn K (.ref f1) = true)
    (a2 : PySem.W.nsIn K mainGlobals "begins_another" = some (some (.ref f2))) (l2 : K.lookup f2 = some ⟨oc2, od2, .func (PySem.W.fnOf "begins_another" "begins_another" (defArgs st_begins_another) (defBody st_begins_another) (defScope st_begins_another) .none kV2 dc2 pm2 an2 cd2 ct2), sl2⟩) (c2 : PySem.W.codeIn K cd2 "begins_another" = true) (k2 : PySem.W.keepIn K (.ref f2) = true)
    (a3 : PySem.W.nsIn K mainGlobals "_law_pen" = some (some (.ref f3))) (l3 : K.lookup f3 = some ⟨oc3, od3, .func (PySem.W.fnOf "_law_pen" "_law_pen" (defArgs st_law_pen) (defBody st_law_pen) (defScope st_law_pen) .none kV3 dc3 pm3 an3 cd3 ct3), sl3⟩) (c3 : PySem.W.codeIn K cd3 "_law_pen" = true) (k3 : PySem.W.keepIn K (.ref f3) = true)
    (a4 : PySem.W.nsIn K mainGlobals "_law_draw" = some (some (.ref f4))) (l4 : K.lookup f4 = some ⟨oc4, od4, .func (PySem.W.fnOf "_law_draw" "_law_draw" (defArgs st_law_draw) (defBody st_law_draw) (defScope st_law_draw) .none kV4 dc4 pm4 an4 cd4 ct4), sl4⟩) (c4 : PySem.W.codeIn K cd4 "_law_draw" = true) (k4 : PySem.W.keepIn K (.ref f4) = true)
    (a5 : PySem.W.nsIn K mainGlobals "_law_is_part" = some (some (.ref f5))) (l5 : K.lookup f5 = some ⟨oc5, od5, .func (PySem.W.fnOf "_law_is_part" "_law_is_part" (defArgs st_law_is_part) (defBody st_law_is_part) (defScope st_law_is_part) .none kV5 dc5 pm5 an5 cd5 ct5), sl5⟩) (c5 : PySem.W.codeIn K cd5 "_law_is_part" = true) (k5 : PySem.W.keepIn K (.ref f5) = true)
    (a6 : PySem.W.nsIn K mainGlobals "has_signs" = some (some (.ref f6))) (l6 : K.lookup f6 = some ⟨oc6, od6, .func (PySem.W.fnOf "has_signs" "has_signs" (defArgs st_has_signs) (defBody st_has_signs) (defScope st_has_signs) .none kV6 dc6 pm6 an6 cd6 ct6), sl6⟩) (c6 : PySem.W.codeIn K cd6 "has_signs" = true) (k6 : PySem.W.keepIn K (.ref f6) = true)
    (a7 : PySem.W.nsIn K mainGlobals "_law_tongue" = some (some (.ref f7))) (l7 : K.lookup f7 = some ⟨oc7, od7, .func (PySem.W.fnOf "_law_tongue" "_law_tongue" (defArgs st_law_tongue) (defBody st_law_tongue) (defScope st_law_tongue) .none kV7 dc7 pm7 an7 cd7 ct7), sl7⟩) (c7 : PySem.W.codeIn K cd7 "_law_tongue" = true) (k7 : PySem.W.keepIn K (.ref f7) = true)
    (a8 : PySem.W.nsIn K mainGlobals "_law_text" = some (some (.ref f8))) (l8 : K.lookup f8 = some ⟨oc8, od8, .func (PySem.W.fnOf "_law_text" "_law_text" (defArgs st_law_text) (defBody st_law_text) (defScope st_law_text) .none kV8 dc8 pm8 an8 cd8 ct8), sl8⟩) (c8 : PySem.W.codeIn K cd8 "_law_text" = true) (k8 : PySem.W.keepIn K (.ref f8) = true)
    (a9 : PySem.W.nsIn K mainGlobals "_law_is_step" = some (some (.ref f9))) (l9 : K.lookup f9 = some ⟨oc9, od9, .func (PySem.W.fnOf "_law_is_step" "_law_is_step" (defArgs st_law_is_step) (defBody st_law_is_step) (defScope st_law_is_step) .none kV9 dc9 pm9 an9 cd9 ct9), sl9⟩) (c9 : PySem.W.codeIn K cd9 "_law_is_step" = true) (k9 : PySem.W.keepIn K (.ref f9) = true)
    (a10 : PySem.W.nsIn K mainGlobals "_law_words" = some (some (.ref f10))) (l10 : K.lookup f10 = some ⟨oc10, od10, .func (PySem.W.fnOf "_law_words" "_law_words" (defArgs st_law_words) (defBody st_law_words) (defScope st_law_words) .none kV10 dc10 pm10 an10 cd10 ct10), sl10⟩) (c10 : PySem.W.codeIn K cd10 "_law_words" = true) (k10 : PySem.W.keepIn K (.ref f10) = true)
    (a11 : PySem.W.nsIn K mainGlobals "is_word" = some (some (.ref f11))) (l11 : K.lookup f11 = some ⟨oc11, od11, .func (PySem.W.fnOf "is_word" "is_word" (defArgs st_is_word) (defBody st_is_word) (defScope st_is_word) .none kV11 dc11 pm11 an11 cd11 ct11), sl11⟩) (c11 : PySem.W.codeIn K cd11 "is_word" = true) (k11 : PySem.W.keepIn K (.ref f11) = true)
    (a12 : PySem.W.nsIn K mainGlobals "_law_part" = some (some (.ref f12))) (l12 : K.lookup f12 = some ⟨oc12, od12, .func (PySem.W.fnOf "_law_part" "_law_part" (defArgs st_law_part) (defBody st_law_part) (defScope st_law_part) .none kV12 dc12 pm12 an12 cd12 ct12), sl12⟩) (c12 : PySem.W.codeIn K cd12 "_law_part" = true) (k12 : PySem.W.keepIn K (.ref f12) = true)
    (a13 : PySem.W.nsIn K mainGlobals "_law_is_plan" = some (some (.ref f13))) (l13 : K.lookup f13 = some ⟨oc13, od13, .func (PySem.W.fnOf "_law_is_plan" "_law_is_plan" (defArgs st_law_is_plan) (defBody st_law_is_plan) (defScope st_law_is_plan) .none kV13 dc13 pm13 an13 cd13 ct13), sl13⟩) (c13 : PySem.W.codeIn K cd13 "_law_is_plan" = true) (k13 : PySem.W.keepIn K (.ref f13) = true)
    (a14 : PySem.W.nsIn K mainGlobals "_law_otherwise" = some (some (.ref f14))) (l14 : K.lookup f14 = some ⟨oc14, od14, .func (PySem.W.fnOf "_law_otherwise" "_law_otherwise" (defArgs st_law_otherwise) (defBody st_law_otherwise) (defScope st_law_otherwise) .none kV14 dc14 pm14 an14 cd14 ct14), sl14⟩) (c14 : PySem.W.codeIn K cd14 "_law_otherwise" = true) (k14 : PySem.W.keepIn K (.ref f14) = true)
    (a15 : PySem.W.nsIn K mainGlobals "is_part" = some (some (.ref f15))) (l15 : K.lookup f15 = some ⟨oc15, od15, .func (PySem.W.fnOf "is_part" "is_part" (defArgs st_is_part) (defBody st_is_part) (defScope st_is_part) .none kV15 dc15 pm15 an15 cd15 ct15), sl15⟩) (c15 : PySem.W.codeIn K cd15 "is_part" = true) (k15 : PySem.W.keepIn K (.ref f15) = true)
    (a16 : PySem.W.nsIn K mainGlobals "_law_step" = some (some (.ref f16))) (l16 : K.lookup f16 = some ⟨oc16, od16, .func (PySem.W.fnOf "_law_step" "_law_step" (defArgs st_law_step) (defBody st_law_step) (defScope st_law_step) .none kV16 dc16 pm16 an16 cd16 ct16), sl16⟩) (c16 : PySem.W.codeIn K cd16 "_law_step" = true) (k16 : PySem.W.keepIn K (.ref f16) = true)
    (a17 : PySem.W.nsIn K mainGlobals "is_step" = some (some (.ref f17))) (l17 : K.lookup f17 = some ⟨oc17, od17, .func (PySem.W.fnOf "is_step" "is_step" (defArgs st_is_step) (defBody st_is_step) (defScope st_is_step) .none kV17 dc17 pm17 an17 cd17 ct17), sl17⟩) (c17 : PySem.W.codeIn K cd17 "is_step" = true) (k17 : PySem.W.keepIn K (.ref f17) = true)
    (a18 : PySem.W.nsIn K mainGlobals "is_plan" = some (some (.ref f18))) (l18 : K.lookup f18 = some ⟨oc18, od18, .func (PySem.W.fnOf "is_plan" "is_plan" (defArgs st_is_plan) (defBody st_is_plan) (defScope st_is_plan) .none kV18 dc18 pm18 an18 cd18 ct18), sl18⟩) (c18 : PySem.W.codeIn K cd18 "is_plan" = true) (k18 : PySem.W.keepIn K (.ref f18) = true)
    (a19 : PySem.W.nsIn K mainGlobals "_law_asked" = some (some (.ref f19))) (l19 : K.lookup f19 = some ⟨oc19, od19, .func (PySem.W.fnOf "_law_asked" "_law_asked" (defArgs st_law_asked) (defBody st_law_asked) (defScope st_law_asked) .none kV19 dc19 pm19 an19 cd19 ct19), sl19⟩) (c19 : PySem.W.codeIn K cd19 "_law_asked" = true) (k19 : PySem.W.keepIn K (.ref f19) = true)
    (a20 : PySem.W.nsIn K mainGlobals "law" = some (some (.ref f20))) (l20 : K.lookup f20 = some ⟨oc20, od20, .func (PySem.W.fnOf "law" "law" (defArgs st_law) (defBody st_law) (defScope st_law) .none kV20 dc20 pm20 an20 cd20 ct20), sl20⟩) (c20 : PySem.W.codeIn K cd20 "law" = true) (k20 : PySem.W.keepIn K (.ref f20) = true)
    (z0 : PySem.W.nsIn K mainGlobals "all" = some none)    (z1 : PySem.W.nsIn K mainGlobals "any" = some none)    (z2 : PySem.W.nsIn K mainGlobals "bool" = some none)    (z3 : PySem.W.nsIn K mainGlobals "enumerate" = some none)    (z4 : PySem.W.nsIn K mainGlobals "isinstance" = some none)    (z5 : PySem.W.nsIn K mainGlobals "len" = some none)    (z6 : PySem.W.nsIn K mainGlobals "list" = some none)    (z7 : PySem.W.nsIn K mainGlobals "max" = some none)    (z8 : PySem.W.nsIn K mainGlobals "range" = some none)    (z9 : PySem.W.nsIn K mainGlobals "str" = some none)    (z10 : PySem.W.nsIn K mainGlobals "sum" = some none)    (z11 : PySem.W.nsIn K mainGlobals "tuple" = some none)    (y0 : PySem.W.nsIn K mainGlobals "MOST_LONG" = some (some (.int 60 t0))) :
    ∃ fd : FuncData, (∀ (s : Shared) (v : Value), BindsTo s fd ⟨[v], []⟩ [("_law_script", v)]) ∧ ∀ base : Heap, K.In base → base.Ns mainGlobals mg → FnG l.prog w K mg base 8 fa fd ["_law_script"] (spOf ⟨w, mg⟩ K 1 s_law) := by
  have e := hfa.symm.trans (PySem.W.mg_of X G a20)
  cases e
  have F1 := fun_mk (st := st_signs_of) l1 c1 k1
  have b1 := F1.binds (ps := ["tongue"]) fun _ _ _ _ _ _ us hl => match us, hl with | [_], _ => rfl
  have F2 := fun_mk (st := st_begins_another) l2 c2 k2
  have b2 := F2.binds (ps := ["part"]) fun _ _ _ _ _ _ us hl => match us, hl with | [_], _ => rfl
  have F3 := fun_mk (st := st_law_pen) l3 c3 k3
  have b3 := F3.binds (ps := ["_law_script", "_law_k"]) fun _ _ _ _ _ _ us hl => match us, hl with | [_, _], _ => rfl
  have F4 := fun_mk (st := st_law_draw) l4 c4 k4
  have b4 := F4.binds (ps := ["_law_pen_here", "_law_many"]) fun _ _ _ _ _ _ us hl => match us, hl with | [_, _], _ => rfl
  have F5 := fun_mk (st := st_law_is_part) l5 c5 k5
  have b5 := F5.binds (ps := ["_law_tongue_here", "_law_part_here", "_law_last"]) fun _ _ _ _ _ _ us hl => match us, hl with | [_, _, _], _ => rfl
  have F6 := fun_mk (st := st_has_signs) l6 c6 k6
  have b6 := F6.binds (ps := ["tongue", "text"]) fun _ _ _ _ _ _ us hl => match us, hl with | [_, _], _ => rfl
  have F7 := fun_mk (st := st_law_tongue) l7 c7 k7
  have b7 := F7.binds (ps := ["_law_pen_here", "_law_most"]) fun _ _ _ _ _ _ us hl => match us, hl with | [_, _], _ => rfl
  have F8 := fun_mk (st := st_law_text) l8 c8 k8
  have b8 := F8.binds (ps := ["_law_pen_here", "_law_tongue_here", "_law_most"]) fun _ _ _ _ _ _ us hl => match us, hl with | [_, _, _], _ => rfl
  have F9 := fun_mk (st := st_law_is_step) l9 c9 k9
  have b9 := F9.binds (ps := ["_law_tongue_here", "_law_step_here"]) fun _ _ _ _ _ _ us hl => match us, hl with | [_, _], _ => rfl
  have F10 := fun_mk (st := st_law_words) l10 c10 k10
  have b10 := F10.binds (ps := ["_law_pen_here", "_law_tongue_here", "_law_word"]) fun _ _ _ _ _ _ us hl => match us, hl with | [_, _, _], _ => rfl
  have F11 := fun_mk (st := st_is_word) l11 c11 k11
  have b11 := F11.binds (ps := ["tongue", "thing"]) fun _ _ _ _ _ _ us hl => match us, hl with | [_, _], _ => rfl
  have F12 := fun_mk (st := st_law_part) l12 c12 k12
  have b12 := F12.binds (ps := ["_law_pen_here", "_law_tongue_here", "_law_most", "_law_size", "_law_free"]) fun _ _ _ _ _ _ us hl => match us, hl with | [_, _, _, _, _], _ => rfl
  have F13 := fun_mk (st := st_law_is_plan) l13 c13 k13
  have b13 := F13.binds (ps := ["_law_tongue_here", "_law_plan"]) fun _ _ _ _ _ _ us hl => match us, hl with | [_, _], _ => rfl
  have F14 := fun_mk (st := st_law_otherwise) l14 c14 k14
  have b14 := F14.binds (ps := ["_law_pen_here", "_law_tongue_here", "_law_step_here"]) fun _ _ _ _ _ _ us hl => match us, hl with | [_, _, _], _ => rfl
  have F15 := fun_mk (st := st_is_part) l15 c15 k15
  have b15 := F15.binds (ps := ["tongue", "thing"]) fun _ _ _ _ _ _ us hl => match us, hl with | [_, _], _ => rfl
  have F16 := fun_mk (st := st_law_step) l16 c16 k16
  have b16 := F16.binds (ps := ["_law_pen_here", "_law_tongue_here", "_law_parts", "_law_most", "_law_size"]) fun _ _ _ _ _ _ us hl => match us, hl with | [_, _, _, _, _], _ => rfl
  have F17 := fun_mk (st := st_is_step) l17 c17 k17
  have b17 := F17.binds (ps := ["tongue", "thing"]) fun _ _ _ _ _ _ us hl => match us, hl with | [_, _], _ => rfl
  have F18 := fun_mk (st := st_is_plan) l18 c18 k18
  have b18 := F18.binds (ps := ["tongue", "thing"]) fun _ _ _ _ _ _ us hl => match us, hl with | [_, _], _ => rfl
  have F19 := fun_mk (st := st_law_asked) l19 c19 k19
  have b19 := F19.binds (ps := ["_law_tongue_here", "_law_step_here", "_law_plan"]) fun _ _ _ _ _ _ us hl => match us, hl with | [_, _, _], _ => rfl
  have F20 := fun_mk (st := st_law) l20 c20 k20
  have b20 := F20.binds (ps := ["_law_script"]) fun _ _ _ _ _ _ us hl => match us, hl with | [_], _ => rfl
  have m_all := PySem.W.mg_none_of X G z0
  have m_any := PySem.W.mg_none_of X G z1
  have m_bool := PySem.W.mg_none_of X G z2
  have m_enumerate := PySem.W.mg_none_of X G z3
  have m_isinstance := PySem.W.mg_none_of X G z4
  have m_len := PySem.W.mg_none_of X G z5
  have m_list := PySem.W.mg_none_of X G z6
  have m_max := PySem.W.mg_none_of X G z7
  have m_range := PySem.W.mg_none_of X G z8
  have m_str := PySem.W.mg_none_of X G z9
  have m_sum := PySem.W.mg_none_of X G z10
  have m_tuple := PySem.W.mg_none_of X G z11
  have g_MOST_LONG : ∃ u, mg "MOST_LONG" = some u ∧ RelV (.int 60) u := ⟨_, PySem.W.mg_of X G y0, ⟨_, rfl⟩⟩
  refine ⟨PySem.W.fnOf "law" "law" (defArgs st_law) (defBody st_law) (defScope st_law) .none kV20 dc20 pm20 an20 cd20 ct20, fun s v => .of_eq rfl, fun base _ _ => ?_⟩
  have c_signs_of : Cal l.prog w K mg base 1 "signs_of" 1 s_signs_of := ok_signs_of F1 (PySem.W.mg_of X G a1) b1 
  have c_begins_another : Cal l.prog w K mg base 1 "begins_another" 1 s_begins_another := ok_begins_another F2 (PySem.W.mg_of X G a2) b2 m_enumerate
  have c_law_pen : Cal l.prog w K mg base 1 "_law_pen" 2 s_law_pen := ok_law_pen F3 (PySem.W.mg_of X G a3) b3 m_len
  have c_law_draw : Cal l.prog w K mg base 1 "_law_draw" 2 s_law_draw := ok_law_draw F4 (PySem.W.mg_of X G a4) b4 
  have c_law_is_part : Cal l.prog w K mg base 1 "_law_is_part" 3 s_law_is_part := ok_law_is_part F5 (PySem.W.mg_of X G a5) b5 m_enumerate m_isinstance m_len m_str m_tuple
  have c_has_signs : Cal l.prog w K mg base 2 "has_signs" 2 s_has_signs := ok_has_signs F6 (PySem.W.mg_of X G a6) b6 m_all c_signs_of
  have c_law_tongue : Cal l.prog w K mg base 2 "_law_tongue" 2 s_law_tongue := ok_law_tongue F7 (PySem.W.mg_of X G a7) b7 m_len m_max m_range m_sum m_tuple c_law_draw
  have c_law_text : Cal l.prog w K mg base 2 "_law_text" 3 s_law_text := ok_law_text F8 (PySem.W.mg_of X G a8) b8 m_len m_range c_law_draw
  have c_law_is_step : Cal l.prog w K mg base 2 "_law_is_step" 2 s_law_is_step := ok_law_is_step F9 (PySem.W.mg_of X G a9) b9 m_enumerate m_isinstance m_len m_tuple c_law_is_part
  have c_law_words : Cal l.prog w K mg base 2 "_law_words" 3 s_law_words := ok_law_words F10 (PySem.W.mg_of X G a10) b10 m_len c_law_draw
  have c_is_word : Cal l.prog w K mg base 3 "is_word" 2 s_is_word := ok_is_word F11 (PySem.W.mg_of X G a11) b11 m_isinstance m_len m_str g_MOST_LONG c_has_signs
  have c_law_part : Cal l.prog w K mg base 3 "_law_part" 5 s_law_part := ok_law_part F12 (PySem.W.mg_of X G a12) b12 m_range m_tuple c_law_text
  have c_law_is_plan : Cal l.prog w K mg base 3 "_law_is_plan" 2 s_law_is_plan := ok_law_is_plan F13 (PySem.W.mg_of X G a13) b13 m_isinstance m_len m_tuple c_law_is_step
  have c_law_otherwise : Cal l.prog w K mg base 3 "_law_otherwise" 3 s_law_otherwise := ok_law_otherwise F14 (PySem.W.mg_of X G a14) b14 m_len m_list m_range m_tuple c_law_draw c_law_text c_law_words
  have c_is_part : Cal l.prog w K mg base 4 "is_part" 2 s_is_part := ok_is_part F15 (PySem.W.mg_of X G a15) b15 m_enumerate m_isinstance m_len m_tuple c_is_word
  have c_law_step : Cal l.prog w K mg base 4 "_law_step" 5 s_law_step := ok_law_step F16 (PySem.W.mg_of X G a16) b16 m_range m_tuple c_law_draw c_law_part
  have c_is_step : Cal l.prog w K mg base 5 "is_step" 2 s_is_step := ok_is_step F17 (PySem.W.mg_of X G a17) b17 m_any m_isinstance m_len m_tuple c_begins_another c_is_part
  have c_is_plan : Cal l.prog w K mg base 6 "is_plan" 2 s_is_plan := ok_is_plan F18 (PySem.W.mg_of X G a18) b18 m_all m_isinstance m_len m_tuple c_is_step
  have c_law_asked : Cal l.prog w K mg base 7 "_law_asked" 3 s_law_asked := ok_law_asked F19 (PySem.W.mg_of X G a19) b19 m_bool m_isinstance c_law_is_step c_law_is_plan c_is_step c_is_plan
  exact okF_law F20 m_len m_list m_range m_tuple c_law_pen c_law_draw c_law_tongue c_law_text c_law_otherwise c_law_step c_is_step c_is_plan c_law_asked
end A_k43
open PySem PySem.W PyProof.Rows
set_option maxHeartbeats 0 in
theorem PySem.Challenge.cw_wordrules_k43_what_is_a_step_holds : PySem.Challenge.rw_wordrules_k43_what_is_a_step.Holds := by
  w_on; o_law; k_head; (case hw => w_witness2)
  k_fill
  refine AL.walk_G (l := PySem.Challenge.rw_wordrules_k43_what_is_a_step) (n := 63) (k := 8) (x := "_law_script") (sp := fun w mg => AL.spOf ⟨w, mg⟩ _ 1 A_k43.s_law) rfl (by decide) rfl ⟨rfl, by decide, by decide⟩ (fun w h Y => PySem.W.kIn_of Y) ?F (fun _ _ H a ns hl _ hS => AL.law_sp A_k43.law_true _ _ H a ns hl hS)
  case F =>
    intro w mg fa h KX G hmg
    refine' A_k43.all_mk KX G hmg ?a1 ?l1 ?c1 ?k1 ?a2 ?l2 ?c2 ?k2 ?a3 ?l3 ?c3 ?k3 ?a4 ?l4 ?c4 ?k4 ?a5 ?l5 ?c5 ?k5 ?a6 ?l6 ?c6 ?k6 ?a7 ?l7 ?c7 ?k7 ?a8 ?l8 ?c8 ?k8 ?a9 ?l9 ?c9 ?k9 ?a10 ?l10 ?c10 ?k10 ?a11 ?l11 ?c11 ?k11 ?a12 ?l12 ?c12 ?k12 ?a13 ?l13 ?c13 ?k13 ?a14 ?l14 ?c14 ?k14 ?a15 ?l15 ?c15 ?k15 ?a16 ?l16 ?c16 ?k16 ?a17 ?l17 ?c17 ?k17 ?a18 ?l18 ?c18 ?k18 ?a19 ?l19 ?c19 ?k19 ?a20 ?l20 ?c20 ?k20 ?z0 ?z1 ?z2 ?z3 ?z4 ?z5 ?z6 ?z7 ?z8 ?z9 ?z10 ?z11 ?y0
    (case a1 => k_is); (case l1 => k_is); (case c1 => k_is); (case k1 => k_is); (case a2 => k_is); (case l2 => k_is); (case c2 => k_is); (case k2 => k_is)
    (case a3 => k_is); (case l3 => k_is); (case c3 => k_is); (case k3 => k_is); (case a4 => k_is); (case l4 => k_is); (case c4 => k_is); (case k4 => k_is)
    (case a5 => k_is); (case l5 => k_is); (case c5 => k_is); (case k5 => k_is); (case a6 => k_is); (case l6 => k_is); (case c6 => k_is); (case k6 => k_is)
    (case a7 => k_is); (case l7 => k_is); (case c7 => k_is); (case k7 => k_is); (case a8 => k_is); (case l8 => k_is); (case c8 => k_is); (case k8 => k_is)
    (case a9 => k_is); (case l9 => k_is); (case c9 => k_is); (case k9 => k_is); (case a10 => k_is); (case l10 => k_is); (case c10 => k_is); (case k10 => k_is)
    (case a11 => k_is); (case l11 => k_is); (case c11 => k_is); (case k11 => k_is); (case a12 => k_is); (case l12 => k_is); (case c12 => k_is); (case k12 => k_is)
    (case a13 => k_is); (case l13 => k_is); (case c13 => k_is); (case k13 => k_is); (case a14 => k_is); (case l14 => k_is); (case c14 => k_is); (case k14 => k_is)
    (case a15 => k_is); (case l15 => k_is); (case c15 => k_is); (case k15 => k_is); (case a16 => k_is); (case l16 => k_is); (case c16 => k_is); (case k16 => k_is)
    (case a17 => k_is); (case l17 => k_is); (case c17 => k_is); (case k17 => k_is); (case a18 => k_is); (case l18 => k_is); (case c18 => k_is); (case k18 => k_is)
    (case a19 => k_is); (case l19 => k_is); (case c19 => k_is); (case k19 => k_is); (case a20 => k_is); (case l20 => k_is); (case c20 => k_is); (case k20 => k_is)
    (case z0 => k_is); (case z1 => k_is); (case z2 => k_is); (case z3 => k_is); (case z4 => k_is); (case z5 => k_is); (case z6 => k_is); (case z7 => k_is)
    (case z8 => k_is); (case z9 => k_is); (case z10 => k_is); (case z11 => k_is); (case y0 => k_is)
