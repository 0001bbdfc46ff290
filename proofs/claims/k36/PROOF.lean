import PyProof.Rows.All
import Wide.All
import OpenK.AllK
import Wide.FinOn
import HandS.ForMost
import HandS.IsInst
import HandS.Flow
import HandS.Style
import HandS.TupAny
import HandS.Codes
import HandS.Wide
import HandS.Deep
import HandS.Zip
import HandS.Exc
import HandS.ExcOwn
import HandS.TryMany
import HandS.WordsExc
import KE.KDictKeyed
import HandS.TupMul
import HandS.Dict
import HandS.Words
import HandS.Text
import HandS.More
import PyProof.ListStr
import KE.DatumOrd
import HandS.List
import HandS.Replace
import PyProof.Rows.StrRev
import PyProof.Rows.StrTemp
import PyProof.SliceStr2
import HandS.Ends
import HandS.RaiseMore
import PyProof.ReprRoads
import PyProof.ReprLen
import PyProof.StrLawsRepr
import PyProof.CallFns
import PyProof.StrOps2
import KE.GoesEnum
import KE.GoesNew
import HandS.Iter
import PyProof.SumAny
import PyProof.Rows.SumGenD
import PyProof.TwoTypesSub
import HandS.Strs
import PyProof.StrWalks
import HandS.Proxy
import PyProof.NeKinds
import KE.KDictDisplayH
import PyProof.TupleOfStr
import PyProof.Rows.SortShellAny
import HandS.Conv
import HandS.DictComp
import HandS.DeepEq
import PyProof.ListMulRight
import PyProof.AutoIntG3
import KE.DataFind
import PyProof.Rows.TupTab
import HandS.ExcIs
import PyProof.Rows.CountFlat
import HandS.TupLen
import HandS.SetKeys
import PyProof.CollectStr
import HandS.ExcInit
import KE.KDictWalk
import PySem.Challenge.RW_wordrules_k36_pairs_looked_at
set_option Elab.async false
set_option linter.all false
set_option maxRecDepth 100000
set_option maxHeartbeats 4000000
namespace AL
open PySem PySem.Spec L2
inductive D where
  | non | bl (b : Bool) | int (i : Int) | str (x : Str) | lst (xs : List D) | tup (xs : List D) | dk (kvs : List (Key × D)) | scr (ns : List Int) | ce (a : Addr)
  deriving Inhabited
inductive Cell where
  | lst (xs : List D) | dk (kvs : List (Key × D)) | dn (kvs : List (NestedKey × D)) | exc (nm : Str) | ob (nm : Str) (fs : List (Str × D)) | dw (lk : Option (Obj × List (NestedKey × Addr × V))) (kvs : List (D × D))
abbrev AH := Addr → Option Cell
def put (C : AH) (a : Addr) (c : Cell) : AH := fun b => if b = a then some c else C b
def del (C : AH) (a : Addr) : AH := fun b => if b = a then none else C b
@[simp] theorem put_same {C : AH} {a : Addr} {c : Cell} : put C a c a = some c := by unfold put; rw [if_pos rfl]
theorem put_ne {C : AH} {a b : Addr} {c : Cell} (h : b ≠ a) : put C a c b = C b := by unfold put; rw [if_neg h]
@[simp] theorem put_put {C : AH} {a : Addr} {c d : Cell} : put (put C a c) a d = put C a d := by
  funext b; unfold put; split <;> rfl
def Ex (H H' : Hp) : Prop := ∀ a o, H a = some o → H' a = some o
theorem Ex.refl (H : Hp) : Ex H H := fun _ _ h => h
theorem Ex.trans {H H1 H2 : Hp} (a : Ex H H1) (b : Ex H1 H2) : Ex H H2 := fun x o h => b x o (a x o h)
theorem Ex.new {H : Hp} {p : Addr} {o : HO} (h : H p = none) : Ex H (upd H p o) := fun a u e => by
  rw [upd_ne (ne_of_none e h)]
  exact e
theorem Ex.l {K : PySem.W.Frag} {H H' : Hp} {a : Addr} {xs : List V} (e : Ex H H') (h : SqL K H a xs) : SqL K H' a xs := by
  rcases h with (h | ⟨o, h⟩) | h
  · exact Or.inl (Or.inl (e a _ h))
  · exact Or.inl (Or.inr ⟨o, e a _ h⟩)
  · exact Or.inr h
theorem Ex.back {H H' : Hp} {p : Addr} (e : Ex H H') (h : H' p = none) : H p = none := by
  cases h1 : H p with
  | none => rfl
  | some o => rw [e p o h1] at h; cases h
def wkP : List D → Bool
  | [.int _, _] => true
  | _ => false
/-- at a stands a tuple -/
def TupS (F : Hp) (a : Addr) (xs : List V) (ds : List D) : Prop := Rd F a (.tup xs) ∧ (wkP ds = false → ∃ o : Obj, o.dict = none ∧ F a = some (.frz o (.tup xs)))
theorem rdUp {F F' : Hp} {a : Addr} {u : HO} (h : Rd F a u) (e : Ex F F') : Rd F' a u := by
  rcases h with h | ⟨o, h⟩
  · exact .inl (e a _ h)
  · exact .inr ⟨o, e a _ h⟩
theorem TupS.mono {F F' : Hp} {a : Addr} {xs : List V} {ds : List D} (h : TupS F a xs ds) (e : Ex F F') : TupS F' a xs ds :=
  ⟨rdUp h.1 e, fun q => let ⟨o, h1, h2⟩ := h.2 q; ⟨o, h1, e a _ h2⟩⟩
theorem TupS.sq {K : PySem.W.Frag} {F H : Hp} {a : Addr} {xs : List V} {ds : List D} (h : TupS F a xs ds) (e : Ex F H) : SqT K H a xs := .inl (rdUp h.1 e)
theorem SqT.of {K : PySem.W.Frag} {H : Hp} {a : Addr} {xs : List V} (h : Rd H a (.tup xs)) : SqT K H a xs := .inl h
theorem TupS.frz {F : Hp} {a : Addr} {xs : List V} {ds : List D} {o : Obj} (h1 : o.dict = none) (h2 : F a = some (.frz o (.tup xs))) : TupS F a xs ds := ⟨.inr ⟨o, h2⟩, fun _ => ⟨o, h1, h2⟩⟩
theorem rdInj {F : Hp} {a : Addr} {xs ys : List V} (h : Rd F a (.tup xs)) (g : Rd F a (.tup ys)) : xs = ys := by
  rcases h with h | ⟨o, h⟩ <;> rcases g with g | ⟨o2, g⟩ <;> rw [h] at g <;> cases g <;> rfl
mutual
inductive Rep (K : PySem.W.Frag) (F : Hp) : V → D → Prop
  | non : Rep K F .non .non
  | bl (b : Bool) : Rep K F (.bl b) (.bl b)
  | int (i : Int) : Rep K F (.int i) (.int i)
  | str (x : Str) : Rep K F (.str x) (.str x)
  | lst {a : Addr} {xs : List V} {ds : List D} : F a = some (.lst xs) → RepL K F xs ds → Rep K F (.ref a) (.lst ds)
  | tup {a : Addr} {xs : List V} {ds : List D} : TupS F a xs ds → RepL K F xs ds → Rep K F (.ref a) (.tup ds)
  | dk {a : Addr} {kvs : List (Key × V)} {es : List (Key × D)} : F a = some (.dK kvs) → RepK K F kvs es → Rep K F (.ref a) (.dk es)
  | scr {a : Addr} {ns : List Int} : SqL K F a (ns.map V.int) → Rep K F (.ref a) (.scr ns)
  | ce (a : Addr) : Rep K F (.ref a) (.ce a)
inductive RepL (K : PySem.W.Frag) (F : Hp) : List V → List D → Prop
  | nil : RepL K F [] []
  | cons {v : V} {vs : List V} {d : D} {ds : List D} : Rep K F v d → RepL K F vs ds → RepL K F (v :: vs) (d :: ds)
inductive RepK (K : PySem.W.Frag) (F : Hp) : List (Key × V) → List (Key × D) → Prop
  | nil : RepK K F [] []
  | cons {k : Key} {v : V} {vs : List (Key × V)} {d : D} {ds : List (Key × D)} : Rep K F v d → RepK K F vs ds → RepK K F ((k, v) :: vs) ((k, d) :: ds)
end
mutual
theorem Rep.mono {K : PySem.W.Frag} {F F' : Hp} (e : Ex F F') : ∀ {v : V} {d : D}, Rep K F v d → Rep K F' v d
  | _, _, .non => .non
  | _, _, .bl b => .bl b
  | _, _, .int i => .int i
  | _, _, .str x => .str x
  | _, _, .lst h r => .lst (e _ _ h) (RepL.mono e r)
  | _, _, .tup h r => .tup (h.mono e) (RepL.mono e r)
  | _, _, .dk h r => .dk (e _ _ h) (RepK.mono e r)
  | _, _, .scr h => .scr (e.l h)
  | _, _, .ce a => .ce a
theorem RepL.mono {K : PySem.W.Frag} {F F' : Hp} (e : Ex F F') : ∀ {vs : List V} {ds : List D}, RepL K F vs ds → RepL K F' vs ds
  | _, _, .nil => .nil
  | _, _, .cons r t => .cons (Rep.mono e r) (RepL.mono e t)
theorem RepK.mono {K : PySem.W.Frag} {F F' : Hp} (e : Ex F F') : ∀ {vs : List (Key × V)} {ds : List (Key × D)}, RepK K F vs ds → RepK K F' vs ds
  | _, _, .nil => .nil
  | _, _, .cons r t => .cons (Rep.mono e r) (RepK.mono e t)
end
section
variable {K : PySem.W.Frag} {F F' : Hp}
theorem RepL.length : ∀ {vs : List V} {ds : List D}, RepL K F vs ds → vs.length = ds.length
  | _, _, .nil => rfl
  | _, _, .cons _ t => by rw [List.length_cons, List.length_cons, RepL.length t]
theorem RepL.get : ∀ {vs : List V} {ds : List D} {i : Nat} {v : V}, RepL K F vs ds → vs[i]? = some v → ∃ d, ds[i]? = some d ∧ Rep K F v d
  | _, _, _, _, .nil, e => by simp at e
  | _, _, 0, _, .cons r _, e => by simp at e; subst e; exact ⟨_, rfl, r⟩
  | _, _, i + 1, v, .cons _ t, e => by
    obtain ⟨u, h1, h2⟩ := RepL.get (i := i) (v := v) t (by simpa using e)
    exact ⟨u, by simpa using h1, h2⟩
theorem RepL.getD : ∀ {vs : List V} {ds : List D} {i : Nat} {d : D}, RepL K F vs ds → ds[i]? = some d → ∃ v, vs[i]? = some v ∧ Rep K F v d
  | _, _, _, _, .nil, e => by simp at e
  | _, _, 0, _, .cons r _, e => by simp at e; subst e; exact ⟨_, rfl, r⟩
  | _, _, i + 1, v, .cons _ t, e => by
    obtain ⟨u, h1, h2⟩ := RepL.getD (i := i) (d := v) t (by simpa using e)
    exact ⟨u, by simpa using h1, h2⟩
theorem RepL.set {x : V} {u : D} (r : Rep K F x u) : ∀ {xs : List V} {us : List D} (i : Nat), RepL K F xs us → RepL K F (xs.set i x) (us.set i u)
  | _, _, _, .nil => .nil
  | _, _, 0, .cons _ t => .cons r t
  | _, _, i + 1, .cons q t => .cons q (RepL.set r i t)
theorem RepL.append : ∀ {xs ys : List V} {us ws : List D}, RepL K F xs us → RepL K F ys ws → RepL K F (xs ++ ys) (us ++ ws)
  | _, _, _, _, .nil, s => s
  | _, _, _, _, .cons r t, s => .cons r (RepL.append t s)
theorem RepL.take : ∀ {xs : List V} {us : List D} (n : Nat), RepL K F xs us → RepL K F (xs.take n) (us.take n)
  | _, _, 0, _ => .nil
  | _, _, _ + 1, .nil => .nil
  | _, _, n + 1, .cons r t => .cons r (RepL.take n t)
theorem RepL.drop : ∀ {xs : List V} {us : List D} (n : Nat), RepL K F xs us → RepL K F (xs.drop n) (us.drop n)
  | _, _, 0, r => r
  | _, _, _ + 1, .nil => .nil
  | _, _, n + 1, .cons _ t => RepL.drop n t
theorem RepL.reverse : ∀ {xs : List V} {us : List D}, RepL K F xs us → RepL K F xs.reverse us.reverse
  | _, _, .nil => .nil
  | _, _, .cons r t => by
    rw [List.reverse_cons, List.reverse_cons]
    exact RepL.append (RepL.reverse t) (.cons r .nil)
theorem RepL.ints : ∀ ns : List Int, RepL K F (ns.map V.int) (ns.map D.int)
  | [] => .nil
  | n :: ns => .cons (.int n) (RepL.ints ns)
end
/-- entries whose keys are tuples -/
inductive RepT (K : PySem.W.Frag) (F : Hp) : List (List Key × V) → List (List Key × D) → Prop
  | nil : RepT K F [] []
  | cons {k : List Key} {v : V} {vs : List (List Key × V)} {d : D} {ds : List (List Key × D)} : Rep K F v d → RepT K F vs ds → RepT K F ((k, v) :: vs) ((k, d) :: ds)
theorem RepT.mono {K : PySem.W.Frag} {F F' : Hp} (e : Ex F F') : ∀ {vs : List (List Key × V)} {ds : List (List Key × D)}, RepT K F vs ds → RepT K F' vs ds
  | _, _, .nil => .nil
  | _, _, .cons r t => .cons (r.mono e) (t.mono e)
mutual
/-- a value that is a key -/
inductive VKey (F : Hp) : V → NestedKey → Prop
  | non : VKey F .non .none
  | bl (b : Bool) : VKey F (.bl b) (.num (if b = true then 1 else 0))
  | int (i : Int) : VKey F (.int i) (.num i)
  | str (x : Str) : VKey F (.str x) (.text x)
  | tup {a : Addr} {vs : List V} {ks : List NestedKey} : Rd F a (.tup vs) → VKeys F vs ks → VKey F (.ref a) (.tup ks)
inductive VKeys (F : Hp) : List V → List NestedKey → Prop
  | nil : VKeys F [] []
  | cons {v : V} {vs : List V} {k : NestedKey} {ks : List NestedKey} : VKey F v k → VKeys F vs ks → VKeys F (v :: vs) (k :: ks)
end
mutual
theorem VKey.mono {F F' : Hp} (e : Ex F F') : ∀ {v : V} {k : NestedKey}, VKey F v k → VKey F' v k
  | _, _, .non => .non
  | _, _, .bl b => .bl b
  | _, _, .int i => .int i
  | _, _, .str x => .str x
  | _, _, .tup h r => .tup (rdUp h e) (VKeys.mono e r)
theorem VKeys.mono {F F' : Hp} (e : Ex F F') : ∀ {v : List V} {k : List NestedKey}, VKeys F v k → VKeys F' v k
  | _, _, .nil => .nil
  | _, _, .cons r t => .cons (VKey.mono e r) (VKeys.mono e t)
end
inductive RepN (K : PySem.W.Frag) (F : Hp) : List (NestedKey × Addr × V) → List (NestedKey × D) → Prop
  | nil : RepN K F [] []
  | cons {k : NestedKey} {a : Addr} {v : V} {vs : List (NestedKey × Addr × V)} {d : D} {ds : List (NestedKey × D)} : VKey F (.ref a) k → k.depth ≤ 8 → Rep K F v d → RepN K F vs ds → RepN K F ((k, a, v) :: vs) ((k, d) :: ds)
theorem RepN.mono {K : PySem.W.Frag} {F F' : Hp} (e : Ex F F') : ∀ {vs : List (NestedKey × Addr × V)} {ds : List (NestedKey × D)}, RepN K F vs ds → RepN K F' vs ds
  | _, _, .nil => .nil
  | _, _, .cons a b r t => .cons (a.mono e) b (r.mono e) (t.mono e)
mutual
def keyN : D → Option NestedKey
  | .non => some .none
  | .bl b => some (.num (if b = true then 1 else 0))
  | .int i => some (.num i)
  | .str x => some (.text x)
  | .tup ds => (keyNs ds).map .tup
  | _ => none
def keyNs : List D → Option (List NestedKey)
  | [] => some []
  | d :: ds => match keyN d, keyNs ds with | some k, some ks => some (k :: ks) | _, _ => none
end
def isTup : D → Bool
  | .tup _ => true
  | _ => false
/-- a tuple that is a key -/
def keyT (d : D) : Option NestedKey := if isTup d = true then (match keyN d with | some k => if k.depth ≤ 8 then some k else none | none => none) else none
/-- entries whose keys are told, too -/
inductive RepW (K : PySem.W.Frag) (F : Hp) : List (NestedKey × Addr × V) → List (D × D) → Prop
  | nil : RepW K F [] []
  | cons {k : NestedKey} {a : Addr} {v : V} {vs : List (NestedKey × Addr × V)} {kd d : D} {ds : List (D × D)} : Rep K F (.ref a) kd → keyT kd = some k → Rep K F v d → RepW K F vs ds → RepW K F ((k, a, v) :: vs) ((kd, d) :: ds)
theorem RepW.mono {K : PySem.W.Frag} {F F' : Hp} (e : Ex F F') : ∀ {vs : List (NestedKey × Addr × V)} {ds : List (D × D)}, RepW K F vs ds → RepW K F' vs ds
  | _, _, .nil => .nil
  | _, _, .cons a b r t => .cons (a.mono e) b (r.mono e) (t.mono e)
/-- at p stands a dict with these entries -/
def DictN (w : World) (p : Addr) (xs : List (NestedKey × Addr × V)) : Heap → Prop := fun h => xs.length ≤ sizeLine ∧ (p == sysModules) = false ∧
  ∃ ys : List (NestedKey × Addr × Value), Paired (fun (x : NestedKey × Addr × V) (y : NestedKey × Addr × Value) => x.1 = y.1 ∧ x.2.1 = y.2.1 ∧ RelV x.2.2 y.2.2) xs ys ∧
  ∃ (o : Obj) (es : Array DictEntry) (ep : Nat), h.get? p = some o ∧ o.ExactDict ∧ o.data = .dict es ep ∧ es.toList = ys.map (fun x => (⟨x.1.hash w, .ref x.2.1, x.2.2⟩ : DictEntry)) ∧ (ys.map (·.1)).Nodup
/-- fields of an object -/
inductive RepF (K : PySem.W.Frag) (F : Hp) : List (Str × V) → List (Str × D) → Prop
  | nil : RepF K F [] []
  | cons {k : Str} {v : V} {vs : List (Str × V)} {d : D} {ds : List (Str × D)} : Rep K F v d → RepF K F vs ds → RepF K F ((k, v) :: vs) ((k, d) :: ds)
theorem RepF.mono {K : PySem.W.Frag} {F F' : Hp} (e : Ex F F') : ∀ {vs : List (Str × V)} {ds : List (Str × D)}, RepF K F vs ds → RepF K F' vs ds
  | _, _, .nil => .nil
  | _, _, .cons r t => .cons (r.mono e) (t.mono e)
/-- the grounds: the world, the module's names -/
structure Gd where
  w : World
  mg : Str → Option Value
/-- at p stands an exception of a class, without attributes -/
def ExcAt (cls : Value) (p : Addr) : Heap → Prop := fun h => ∃ (oe : Obj) (vs : Array Value), h.get? p = some oe ∧ oe.cls = cls ∧ oe.dict = none ∧ oe.data = .fields vs
/-- what a cell holds -/
inductive CellC (w : Gd) (K : PySem.W.Frag) (F : Hp) (p : Addr) : HO → Cell → Prop
  | lst {xs : List V} {ds : List D} : RepL K F xs ds → CellC w K F p (.lst xs) (.lst ds)
  | dk {kvs : List (Key × V)} {es : List (Key × D)} : RepK K F kvs es → CellC w K F p (.dK kvs) (.dk es)
  | dn {xs : List (NestedKey × Addr × V)} {es : List (NestedKey × D)} : RepN K F xs es → CellC w K F p (.ext (DictN w.w p xs)) (.dn es)
  | dw {xs : List (NestedKey × Addr × V)} {es : List (D × D)} : RepW K F xs es → CellC w K F p (.ext (DictN w.w p xs)) (.dw none es)
  | dwl {o : Obj} {xs : List (NestedKey × Addr × V)} {es : List (D × D)} : RepW K F xs es → CellC w K F p (.frz o (.ext (DictN w.w p xs))) (.dw (some (o, xs)) es)
  | exc {nm : Str} {cls : Value} : w.mg nm = some cls → CellC w K F p (.ext (ExcAt cls p)) (.exc nm)
  | ob {nm : Str} {C dx : Addr} {fs : List (Str × V)} {es : List (Str × D)} : w.mg nm = some (.ref C) → RepF K F fs es → CellC w K F p (.ins C dx fs) (.ob nm es)
theorem CellC.mono {w : Gd} {K : PySem.W.Frag} {F F' : Hp} {p : Addr} (e : Ex F F') {o : HO} {c : Cell} : CellC w K F p o c → CellC w K F' p o c
  | .lst r => .lst (r.mono e)
  | .dk r => .dk (r.mono e)
  | .dn r => .dn (r.mono e)
  | .exc h => .exc h
  | .dw r => .dw (r.mono e)
  | .dwl r => .dwl (r.mono e)
  | .ob h r => .ob h (r.mono e)
/-- what was known, and kept aside, where the def, or the try, was entered -/
structure Bs where
  F0 : Hp
  R0 : Hp
  g : Gd
/-- the empty ground -/
def Bs.nil (w : Gd) : Bs := ⟨fun _ => none, fun _ => none, w⟩
/-- F: what is known for good; C: the cells; R: what is kept aside -/
structure Sat (B : Bs) (K : PySem.W.Frag) (F : Hp) (C : AH) (R H : Hp) : Prop where
  bF : Ex B.F0 F
  bR : Ex B.R0 R
  ex : Ex F H
  cell : ∀ p c, C p = some c → F p = none ∧ ∃ o, H p = some o ∧ CellC B.g K F p o c
  priv : ∀ p o, R p = some o → F p = none ∧ C p = none ∧ H p = some o
section
variable {B : Bs} {K : PySem.W.Frag} {F F' : Hp} {C : AH} {R H : Hp} {p : Addr}
theorem Sat.rebase {B' : Bs} (S : Sat B K F C R H) (hw : B'.g = B.g) (h1 : Ex B'.F0 F) (h2 : Ex B'.R0 R) : Sat B' K F C R H := ⟨h1, h2, S.ex, fun p c e => by rw [hw]; exact S.cell p c e, S.priv⟩
theorem Sat.nil (S : Sat B K F C R H) : Sat (Bs.nil B.g) K F C R H := S.rebase rfl (fun _ _ e => by cases e) (fun _ _ e => by cases e)
/-- back behind a call -/
theorem Sat.back {C0 : AH} {H0 : Hp} {F1 : Hp} {C1 : AH} {H1 : Hp} (S : Sat B K F C0 R H0) (e : Ex F F1) (S1 : Sat (Bs.nil B.g) K F1 C1 R H1) : Sat B K F1 C1 R H1 := S1.rebase rfl (S.bF.trans e) S.bR
theorem Sat.freeB (S : Sat B K F C R H) (h : R p = none) : B.R0 p = none := S.bR.back h
theorem Sat.freeF (S : Sat B K F C R H) (h : H p = none) : F p = none := S.ex.back h
theorem Sat.freeC (S : Sat B K F C R H) (h : H p = none) : C p = none := by
  cases q : C p with
  | none => rfl
  | some c => obtain ⟨_, o, e, _⟩ := S.cell p c q; rw [h] at e; cases e
theorem Sat.freeR (S : Sat B K F C R H) (h : H p = none) : R p = none := by
  cases q : R p with
  | none => rfl
  | some c => have e := (S.priv p c q).2.2; rw [h] at e; cases e
/-- a new object, known for good -/
theorem Sat.newF (S : Sat B K F C R H) (h : H p = none) (o : HO) : Sat B K (upd F p o) C R (upd H p o) := by
  have hF := S.freeF h
  refine ⟨S.bF.trans (Ex.new hF), S.bR, fun a u e => ?_, fun q c e => ?_, fun q u e => ?_⟩
  · by_cases ha : a = p
    · subst ha; rw [upd_same] at e ⊢; exact e
    · rw [upd_ne ha] at e ⊢; exact S.ex _ _ e
  · obtain ⟨h1, u, h2, h3⟩ := S.cell q c e
    have hq : q ≠ p := ne_of_none h2 h
    exact ⟨by rw [upd_ne hq]; exact h1, u, by rw [upd_ne hq]; exact h2, h3.mono (Ex.new hF)⟩
  · obtain ⟨h1, h2, h3⟩ := S.priv q u e
    have hq : q ≠ p := ne_of_none h3 h
    exact ⟨by rw [upd_ne hq]; exact h1, h2, by rw [upd_ne hq]; exact h3⟩
/-- a cell is made, or changed -/
theorem Sat.setC (S : Sat B K F C R H) (hF : F p = none) (hR : R p = none) {o : HO} {c : Cell} (h : CellC B.g K F p o c) : Sat B K F (put C p c) R (upd H p o) := by
  refine ⟨S.bF, S.bR, fun a u e => ?_, fun q d e => ?_, fun q u e => ?_⟩
  · rw [upd_ne (ne_of_none e hF)]; exact S.ex _ _ e
  · by_cases hq : q = p
    · subst hq; rw [put_same] at e; cases e; exact ⟨hF, o, upd_same, h⟩
    · rw [put_ne hq] at e
      obtain ⟨h1, u, h2, h3⟩ := S.cell q d e
      exact ⟨h1, u, by rw [upd_ne hq]; exact h2, h3⟩
  · have hq : q ≠ p := ne_of_none e hR
    obtain ⟨h1, h2, h3⟩ := S.priv q u e
    exact ⟨h1, by rw [put_ne hq]; exact h2, by rw [upd_ne hq]; exact h3⟩
theorem Sat.newC (S : Sat B K F C R H) (h : H p = none) {o : HO} {c : Cell} (hc : CellC B.g K F p o c) : Sat B K F (put C p c) R (upd H p o) := S.setC (S.freeF h) (S.freeR h) hc
theorem Sat.mutC (S : Sat B K F C R H) {c0 : Cell} (h : C p = some c0) {o : HO} {c : Cell} (hc : CellC B.g K F p o c) : Sat B K F (put C p c) R (upd H p o) := by
  refine S.setC (S.cell p c0 h).1 ?_ hc
  cases q : R p with
  | none => rfl
  | some u => have e := (S.priv p u q).2.1; rw [h] at e; cases e
/-- kept aside -/
theorem Sat.setR (S : Sat B K F C R H) (hF : F p = none) (hC : C p = none) (hB : B.R0 p = none) (o : HO) : Sat B K F C (upd R p o) (upd H p o) := by
  refine ⟨S.bF, fun q u e => by rw [upd_ne (ne_of_none e hB)]; exact S.bR q u e, fun a u e => ?_, fun q d e => ?_, fun q u e => ?_⟩
  · rw [upd_ne (ne_of_none e hF)]; exact S.ex _ _ e
  · have hq : q ≠ p := fun z => by rw [z, hC] at e; cases e
    obtain ⟨h1, u, h2, h3⟩ := S.cell q d e
    exact ⟨h1, u, by rw [upd_ne hq]; exact h2, h3⟩
  · by_cases hq : q = p
    · subst hq; rw [upd_same] at e; cases e; exact ⟨hF, hC, upd_same⟩
    · rw [upd_ne hq] at e
      obtain ⟨h1, h2, h3⟩ := S.priv q u e
      exact ⟨h1, h2, by rw [upd_ne hq]; exact h3⟩
/-- what was kept aside is known for good, is a cell -/
theorem Sat.outF (S : Sat B K F C (upd R p o) H) (hR : R p = none) (hB : B.R0 p = none) : Sat B K (upd F p o) C R H := by
  obtain ⟨f, c, h⟩ := S.priv p o upd_same
  refine ⟨S.bF.trans (Ex.new f), fun q u e => by have := S.bR q u e; rwa [upd_ne (ne_of_none e hB)] at this, fun a u e => ?_, fun q d e => ?_, fun q u e => ?_⟩
  · by_cases ha : a = p
    · subst ha; rw [upd_same] at e; cases e; exact h
    · rw [upd_ne ha] at e; exact S.ex _ _ e
  · have hq : q ≠ p := fun z => by rw [z, c] at e; cases e
    obtain ⟨h1, u, h2, h3⟩ := S.cell q d e
    exact ⟨by rw [upd_ne hq]; exact h1, u, h2, h3.mono (Ex.new f)⟩
  · have hq : q ≠ p := ne_of_none e hR
    obtain ⟨h1, h2, h3⟩ := S.priv q u (by rw [upd_ne hq]; exact e)
    exact ⟨by rw [upd_ne hq]; exact h1, h2, h3⟩
theorem Sat.outC {o : HO} {c : Cell} (S : Sat B K F C (upd R p o) H) (hR : R p = none) (hB : B.R0 p = none) (hc : CellC B.g K F p o c) : Sat B K F (put C p c) R H := by
  obtain ⟨f, c0, h⟩ := S.priv p o upd_same
  refine ⟨S.bF, fun q u e => by have := S.bR q u e; rwa [upd_ne (ne_of_none e hB)] at this, S.ex, fun q d e => ?_, fun q u e => ?_⟩
  · by_cases hq : q = p
    · subst hq; rw [put_same] at e; cases e; exact ⟨f, o, h, hc⟩
    · rw [put_ne hq] at e; exact S.cell q d e
  · have hq : q ≠ p := ne_of_none e hR
    obtain ⟨h1, h2, h3⟩ := S.priv q u (by rw [upd_ne hq]; exact e)
    exact ⟨h1, by rw [put_ne hq]; exact h2, h3⟩
/-- a cell is changed no more -/
theorem Sat.freeze {o : HO} {c : Cell} (S : Sat B K F C R H) (h : C p = some c) (hH : H p = some o) : Sat B K (upd F p o) (del C p) R H := by
  obtain ⟨f, _, _⟩ := S.cell p c h
  refine ⟨S.bF.trans (Ex.new f), S.bR, fun a u e => ?_, fun q d e => ?_, fun q u e => ?_⟩
  · by_cases ha : a = p
    · subst ha; rw [upd_same] at e; cases e; exact hH
    · rw [upd_ne ha] at e; exact S.ex _ _ e
  · by_cases hq : q = p
    · subst hq; unfold del at e; rw [if_pos rfl] at e; cases e
    · unfold del at e; rw [if_neg hq] at e
      obtain ⟨h1, u, h2, h3⟩ := S.cell q d e
      exact ⟨by rw [upd_ne hq]; exact h1, u, h2, h3.mono (Ex.new f)⟩
  · obtain ⟨h1, h2, h3⟩ := S.priv q u e
    have hq : q ≠ p := fun z => by rw [z, h] at h2; cases h2
    refine ⟨by rw [upd_ne hq]; exact h1, ?_, h3⟩
    unfold del; rw [if_neg hq]; exact h2
end
abbrev ASt := List (Option D)
structure Slo (K : PySem.W.Frag) (F : Hp) (s : ASt) (σ : St) : Prop where
  len : s.length = σ.length
  at' : ∀ (i : Nat) (d : D), s[i]? = some (some d) → ∃ v, σ[i]? = some (some v) ∧ Rep K F v d
section
variable {K : PySem.W.Frag} {F F' : Hp} {s : ASt} {σ : St}
theorem Slo.mono (r : Slo K F s σ) (e : Ex F F') : Slo K F' s σ := ⟨r.len, fun i d h => let ⟨v, a, b⟩ := r.at' i d h; ⟨v, a, b.mono e⟩⟩
theorem Slo.set (r : Slo K F s σ) {v : V} {d : D} (h : Rep K F v d) (i : Nat) : Slo K F (s.set i (some d)) (σ.set i (some v)) := by
  refine ⟨by rw [List.length_set, List.length_set, r.len], fun j e q => ?_⟩
  by_cases hj : i = j
  · subst hj
    by_cases hi : i < s.length
    · rw [List.getElem?_set_self hi] at q
      cases q
      exact ⟨v, List.getElem?_set_self (by rw [← r.len]; exact hi), h⟩
    · rw [List.getElem?_eq_none (by simpa using hi)] at q; cases q
  · rw [List.getElem?_set_ne hj] at q ⊢
    exact r.at' j e q
theorem Slo.forget (r : Slo K F s σ) (i : Nat) : Slo K F (s.set i none) (σ.set i none) := by
  refine ⟨by rw [List.length_set, List.length_set, r.len], fun j e q => ?_⟩
  by_cases hj : i = j
  · subst hj
    by_cases hi : i < s.length
    · rw [List.getElem?_set_self hi] at q; cases q
    · rw [List.getElem?_eq_none (by simpa using hi)] at q; cases q
  · rw [List.getElem?_set_ne hj] at q ⊢
    exact r.at' j e q
/-- only the abstract slot changes -/
theorem Slo.reset (r : Slo K F s σ) {i : Nat} {d0 d : D} (h0 : s[i]? = some (some d0)) (h : ∀ v, Rep K F v d0 → Rep K F v d) : Slo K F (s.set i (some d)) σ := by
  refine ⟨by rw [List.length_set, r.len], fun j e q => ?_⟩
  by_cases hj : i = j
  · subst hj
    have hi : i < s.length := (List.getElem?_eq_some_iff.mp h0).1
    rw [List.getElem?_set_self hi] at q
    cases q
    obtain ⟨v, h1, h2⟩ := r.at' i d0 h0
    exact ⟨v, h1, h v h2⟩
  · rw [List.getElem?_set_ne hj] at q
    exact r.at' j e q
def wipeA (s : ASt) : List Nat → ASt
  | [] => s
  | v :: vs => (wipeA s vs).set v none
theorem Slo.wipe (r : Slo K F s σ) : ∀ vs : List Nat, Slo K F (wipeA s vs) (L2.wipe σ vs)
  | [] => r
  | v :: vs => (Slo.wipe r vs).forget v
theorem Slo.start {vs : List V} {ds : List D} (h : RepL K F vs ds) (n : Nat) : Slo K F (ds.map some ++ List.replicate (n - ds.length) none) (vs.map some ++ List.replicate (n - vs.length) none) := by
  have e := h.length
  refine ⟨by simp [e], fun i d q => ?_⟩
  by_cases hi : i < ds.length
  · rw [List.getElem?_append_left (by simpa using hi), List.getElem?_map] at q
    rw [List.getElem?_append_left (by simpa [e] using hi), List.getElem?_map]
    cases z : ds[i]? with
    | none => rw [z] at q; cases q
    | some d' =>
      rw [z] at q
      cases q
      obtain ⟨v, h1, h2⟩ := h.getD z
      exact ⟨v, by rw [h1]; rfl, h2⟩
  · rw [List.getElem?_append_right (by simpa using hi), List.getElem?_replicate] at q
    split at q <;> cases q
end
end AL
namespace AL
open PySem PySem.Spec PyProof.Rows L2
def NewT (xs : List V) (Q : VK) (H : Hp) : Prop := ∀ (p : Addr) (ob : Obj), ob.dict = none → H p = none → Q (.ref p) (upd H p (.frz ob (.tup xs)))
section
variable {X : Cx} {pins : List (Addr × Obj)} {σ : L2.St} {H : Hp} {s : Shared}
theorem laidT {xs : List V} {its : List Value} {Q : VK} {h' : Heap} {tk : Nat} (I : Inv X pins σ H { s with heap := h' }) (hz : xs.length ≤ sizeLine) (r : L2.Vals xs its) (q : NewT xs Q H) :
    EP X pins σ Q (.ref h'.objs.size) { s with heap := h'.push { cls := .type "tuple", data := .seq its.toArray } } := by
  refine ⟨.ref h'.objs.size, upd H h'.objs.size (.frz { cls := .type "tuple", data := .seq its.toArray } (.tup xs)), I.laid (t' := s.toks) (fun b u e => Heap.get?_push_of_some _ e) (Nat.le_refl _) ?_, rfl, q _ _ rfl (I.hok.fresh (Nat.le_refl _))⟩
  exact ⟨Heap.get?_push_size _ rfl, hz, its, r, ⟨_, Heap.get?_push_size _ rfl, rfl, _, rfl⟩⟩
end
def tTupN (t : TA) : TE := fun σ H Q => t σ H fun xs H1 => xs.length ≤ sizeLine ∧ NewT xs Q H1
section
variable {X : Cx} {es : List Expr} {t : TA} {pos : Pos}
theorem pe_tupN {x1} (h : PA X es t) : PE X (.Tuple es x1 pos) (tTupN t) := by
  refine ⟨fun pins s σ H Q I hq => ?_⟩
  refine wpAny_Tuple_spliced (thn (h.run pos pins s σ H _ I hq) fun us s1 ⟨xs, H1, I1, r, z, q⟩ => ⟨by rw [← r.length]; exact z, ?_⟩)
  exact laidT (tk := s1.toks) I1 z r q
def rCatTN (K : PySem.W.Frag) : R2 := fun x y H Q => ∃ a b xs ys, x = .ref a ∧ y = .ref b ∧ SqT K H a xs ∧ SqT K H b ys ∧ xs.length + ys.length ≤ sizeLine ∧
  (xs = [] → Q (.ref b) H) ∧ (xs ≠ [] → ys = [] → Q (.ref a) H) ∧ (xs ≠ [] → ys ≠ [] → NewT (xs ++ ys) Q H)
theorem op_catTN : OpR X (binaryOp .Add) (rCatTN X.K) := by
  intro pins s σ H x y v u Q I rx ry h
  obtain ⟨a, b, xs, ys, rfl, rfl, ha, hb, hz, q0, q1, q2⟩ := h
  by_cases hx : xs = []
  · exact op_catA pins s σ H _ _ v u Q I rx ry ⟨a, b, xs, ys, rfl, rfl, ha, hb, hz, q0, q1, fun h => absurd hx h⟩
  by_cases hy : ys = []
  · exact op_catA pins s σ H _ _ v u Q I rx ry ⟨a, b, xs, ys, rfl, rfl, ha, hb, hz, q0, q1, fun _ h => absurd hy h⟩
  cases rx
  cases ry
  obtain ⟨its, r1, p1, _⟩ := I.tuple ha
  obtain ⟨its2, r2, p2, _⟩ := I.tuple hb
  refine HT.cat_tup p1 p2 (fun z => hx (r1.nil_iff.mp z)) (fun z => absurd (r2.nil_iff.mp z) hy) (fun z => ?_) (by rw [← r1.length, ← r2.length]; exact hz)
  exact laidT (tk := s.toks) I (by rw [List.length_append]; exact hz) (r1.append r2) (q2 hx hy)
def rSlTN (K : PySem.W.Frag) : V → Option Int → Option Int → Hp → VK → Prop := fun x lo hi H Q => ∃ a xs, x = .ref a ∧ SqT K H a xs ∧
  (HT.sIx xs.length 0 lo = 0 ∧ HT.sIx xs.length xs.length hi = xs.length → Q (.ref a) H) ∧ (¬ (HT.sIx xs.length 0 lo = 0 ∧ HT.sIx xs.length xs.length hi = xs.length) → NewT (cutV xs lo hi) Q H)
theorem sl_tupN : SlR X (rSlTN X.K) := by
  intro pins s σ H x v vl vu lo hi sl Q I rx hs pl pu h
  obtain ⟨a, xs, rfl, hx, q1, q2⟩ := h
  by_cases hw : HT.sIx xs.length 0 lo = 0 ∧ HT.sIx xs.length xs.length hi = xs.length
  · exact sl_tupA pins s σ H _ v vl vu lo hi sl Q I rx hs pl pu ⟨a, xs, rfl, hx, q1, fun h => absurd hw h⟩
  · cases rx
    obtain ⟨its, r, ht, hz⟩ := I.tuple hx
    have hlen : its.toArray.size = xs.length := by rw [List.size_toArray]; exact r.length.symm
    refine ⟨"tuple", _, PyProof.Rows.slot_tuple_getitem.lookup, ht.typeIs, ?_⟩
    refine HT.getItem_tuple_cut ht hs pl pu (by rw [hlen]; exact hw) ?_ (by rw [hlen]; exact hz)
    rw [hlen]
    exact laidT (tk := s.toks) I (Nat.le_trans (cutV_length xs lo hi) hz) ((r.drop (HT.sIx xs.length 0 lo)).take (HT.sIx xs.length xs.length hi - HT.sIx xs.length 0 lo)) (q2 hw)
def rTupOfN (K : PySem.W.Frag) : List V → Hp → VK → Prop := fun xs H Q => ∃ p ys, xs = [.ref p] ∧ ((SqL K H p ys ∧ NewT ys Q H) ∨ (SqT K H p ys ∧ Q (.ref p) H))
theorem call_tuple_ofN : CallR X (.type "tuple") (rTupOfN X.K) := by
  intro pins s σ H xs us Q I r h
  obtain ⟨p, ys, rfl, h⟩ := h
  rcases h with ⟨hq, q⟩ | h
  · obtain ⟨u, rfl, rx⟩ := vals1 r
    cases rx
    obtain ⟨its, r', pl, hz⟩ := I.list hq
    have hlen := r'.length
    refine call_tuple_list pl.isList (fun h' kp => ?_) (by simp only [List.size_toArray] <;> omega)
    have I1 : Inv X pins σ H { s with heap := h' } := I.kept (t' := s.toks) kp
    exact laidT (tk := s.toks) I1 hz r' q
  · exact call_tuple_of pins s σ H _ us Q I r ⟨p, ys, rfl, .inr h⟩
end
end AL
namespace AL
open PySem PySem.Spec L2
variable {B : Bs}
abbrev AE' := ASt → AH → (D → AH → Prop) → Prop
abbrev AT' := ASt → AH → (Bool → AH → Prop) → Prop
abbrev AA' := ASt → AH → (List D → AH → Prop) → Prop
structure AEnds where
  nx : ASt → AH → Prop
  rt : D → AH → Prop
  bk : ASt → AH → Prop := fun _ _ => False
  ct : ASt → AH → Prop := fun _ _ => False
abbrev AS' := AEnds → ASt → AH → Prop
abbrev AG' := D → ASt → AH → (ASt → AH → Prop) → Prop
/-- what is walked: the items, what must stay so, the cells -/
abbrev AI' := ASt → AH → (List D → (AH → Prop) → AH → Prop) → Prop
abbrev ASp := List D → AH → (D → AH → Prop) → Prop
section
variable (B : Bs) (K : PySem.W.Frag)
def SimE (te : TE) (a : AE') : Prop := ∀ (σ : L2.St) (s : ASt) (F : Hp) (C : AH) (R H : Hp) (Q : VK) (P : D → AH → Prop), Slo K F s σ → Sat B K F C R H → a s C P →
  (∀ d v F' C' H', Ex F F' → Sat B K F' C' R H' → Rep K F' v d → P d C' → Q v H') → te σ H Q
def SimT (tt : TT) (a : AT') : Prop := ∀ (σ : L2.St) (s : ASt) (F : Hp) (C : AH) (R H : Hp) (Q : Bool → Hp → Prop) (P : Bool → AH → Prop), Slo K F s σ → Sat B K F C R H → a s C P →
  (∀ b F' C' H', Ex F F' → Sat B K F' C' R H' → P b C' → Q b H') → tt σ H Q
def SimA (n : Nat) (ta : TA) (a : AA') : Prop := ∀ (σ : L2.St) (s : ASt) (F : Hp) (C : AH) (R H : Hp) (Q : List V → Hp → Prop) (P : List D → AH → Prop), Slo K F s σ → Sat B K F C R H → a s C P →
  (∀ ds vs F' C' H', Ex F F' → Sat B K F' C' R H' → RepL K F' vs ds → ds.length = n → P ds C' → Q vs H') → ta σ H Q
structure EndsR (F R : Hp) (E : AEnds) (D' : Ends) : Prop where
  nx : ∀ s σ F' C' H', Ex F F' → Slo K F' s σ → Sat B K F' C' R H' → E.nx s C' → D'.nx σ H'
  rt : ∀ d v F' C' H', Ex F F' → Rep K F' v d → Sat B K F' C' R H' → E.rt d C' → D'.rt v H'
  bk : ∀ s σ F' C' H', Ex F F' → Slo K F' s σ → Sat B K F' C' R H' → E.bk s C' → D'.bk σ H'
  ct : ∀ s σ F' C' H', Ex F F' → Slo K F' s σ → Sat B K F' C' R H' → E.ct s C' → D'.ct σ H'
def SimS (ts : TS) (a : AS') : Prop := ∀ (D' : Ends) (E : AEnds) (σ : L2.St) (s : ASt) (F : Hp) (C : AH) (R H : Hp), EndsR B K F R E D' → Slo K F s σ → Sat B K F C R H → a E s C → ts D' σ H
def SimG (g : TG) (a : AG') : Prop := ∀ (v : V) (d : D) (σ : L2.St) (s : ASt) (F : Hp) (C : AH) (R H : Hp) (Q : L2.St → Hp → Prop) (P : ASt → AH → Prop), Slo K F s σ → Sat B K F C R H → Rep K F v d → a d s C P →
  (∀ s' σ' F' C' H', Ex F F' → Slo K F' s' σ' → Sat B K F' C' R H' → P s' C' → Q σ' H') → g v σ H Q
/-- an iterator walks the items -/
structure Walks (F : Hp) (items : List D) (hold : AH → Prop) (J : It) : Prop where
  stop : ∀ F' C' R' H', Ex F F' → Sat B K F' C' R' H' → hold C' → J.stop items.length H'
  go : ∀ F' C' R' H' i, Ex F F' → Sat B K F' C' R' H' → hold C' → i < items.length → J.go i H'
  yld : ∀ F' C' R' H' i x H'', Ex F F' → Sat B K F' C' R' H' → hold C' → i < items.length → J.yld i H' x H'' → ∃ d F'', items[i]? = some d ∧ Ex F' F'' ∧ Sat B K F'' C' R' H'' ∧ Rep K F'' x d
def SimI (wi : TI) (a : AI') : Prop := ∀ (σ : L2.St) (s : ASt) (F : Hp) (C : AH) (R H : Hp) (Q : It → Hp → Prop) (P : List D → (AH → Prop) → AH → Prop), Slo K F s σ → Sat B K F C R H → a s C P →
  (∀ items hold J F' C' H', Ex F F' → Sat B K F' C' R H' → Walks B K F' items hold J → P items hold C' → Q J H') → wi σ H Q
def SimR2 (r : R2) (a : D → D → AH → (D → AH → Prop) → Prop) : Prop := ∀ (v w : V) (d e : D) (F : Hp) (C : AH) (R H : Hp) (Q : VK) (P : D → AH → Prop), Sat B K F C R H → Rep K F v d → Rep K F w e → a d e C P →
  (∀ d v F' C' H', Ex F F' → Sat B K F' C' R H' → Rep K F' v d → P d C' → Q v H') → r v w H Q
def SimR1 (r : V → Hp → VK → Prop) (a : D → AH → (D → AH → Prop) → Prop) : Prop := ∀ (v : V) (d : D) (F : Hp) (C : AH) (R H : Hp) (Q : VK) (P : D → AH → Prop), Sat B K F C R H → Rep K F v d → a d C P →
  (∀ d v F' C' H', Ex F F' → Sat B K F' C' R H' → Rep K F' v d → P d C' → Q v H') → r v H Q
def SimRL (r : List V → Hp → VK → Prop) (a : ASp) : Prop := ∀ (vs : List V) (ds : List D) (F : Hp) (C : AH) (R H : Hp) (Q : VK) (P : D → AH → Prop), Sat B K F C R H → RepL K F vs ds → a ds C P →
  (∀ d v F' C' H', Ex F F' → Sat B K F' C' R H' → Rep K F' v d → P d C' → Q v H') → r vs H Q
def SimRM (r : V → List V → Hp → VK → Prop) (a : D → ASp) : Prop := ∀ (v : V) (d : D) (vs : List V) (ds : List D) (F : Hp) (C : AH) (R H : Hp) (Q : VK) (P : D → AH → Prop), Sat B K F C R H → Rep K F v d → RepL K F vs ds → a d ds C P →
  (∀ d v F' C' H', Ex F F' → Sat B K F' C' R H' → Rep K F' v d → P d C' → Q v H') → r v vs H Q
end
structure AE (B : Bs) (X : Cx) (e : Expr) (te : TE) (a : AE') : Prop where
  pe : PE X e te
  sim : SimE B X.K te a
structure AT (B : Bs) (X : Cx) (e : Expr) (tt : TT) (a : AT') : Prop where
  pt : PT X e tt
  sim : SimT B X.K tt a
structure AW (B : Bs) (X : Cx) (e : Expr) (tt : TT) (a : AT') : Prop where
  pw : PW X e tt
  sim : SimT B X.K tt a
structure ATs (B : Bs) (X : Cx) (es : List Expr) (tt : TT) (a : AT') : Prop where
  pts : PTs X es tt
  sim : SimT B X.K tt a
structure AA (B : Bs) (X : Cx) (es : List Expr) (n : Nat) (ta : TA) (a : AA') : Prop where
  pa : PA X es ta
  sim : SimA B X.K n ta a
structure AS (B : Bs) (X : Cx) (st : Stmt) (ts : TS) (a : AS') : Prop where
  ps : PS X st ts
  sim : SimS B X.K ts a
structure ASs (B : Bs) (X : Cx) (st : List Stmt) (ts : TS) (a : AS') : Prop where
  ps : PSs X st ts
  sim : SimS B X.K ts a
/-- a target stores to the slots vs alone -/
def GIn (vs : List Nat) (g : TG) : Prop := ∀ x σ H (Q Q' : L2.St → Hp → Prop), g x σ H Q → (∀ σ2 H2, L2.wipe σ2 vs = L2.wipe σ vs → Q σ2 H2 → Q' σ2 H2) → g x σ H Q'
structure AG (B : Bs) (X : Cx) (e : Expr) (vs : List Nat) (g : TG) (a : AG') : Prop where
  pg : PG X e g
  sim : SimG B X.K g a
  inn : GIn vs g
structure AI (B : Bs) (X : Cx) (tg e : Expr) (wi : TI) (a : AI') : Prop where
  pi : PI X tg e wi
  sim : SimI B X.K wi a
def aVar (i : Nat) : AE' := fun s C P => match s[i]? with | some (some d) => P d C | _ => False
def aC (d : D) : AE' := fun _ C P => P d C
section
variable {X : Cx} {pos : Pos} {K : PySem.W.Frag}
theorem sim_var (i : Nat) : SimE B K (tVar i) (aVar i) := by
  intro σ s F C R H Q P hs hS h k
  unfold aVar at h
  split at h
  · rename_i d e
    obtain ⟨v, h1, h2⟩ := hs.at' i d e
    exact ⟨v, h1, k d v F C H (Ex.refl F) hS h2 h⟩
  · exact h.elim
theorem ae_v (i : Nat) {x : Str} (hN : X.N[i]? = some x := by rfl) (hv : Vis X.env.scope x := by first | exact Or.inl rfl | exact Or.inr (Or.inl rfl) | exact Or.inr (Or.inr rfl)) (hd : (x == ("__debug__" : Str)) = false := by decide)
    (hcd : (x == ("__classdict__" : Str)) = false := by decide) : AE B X (.Name x pos) (tVar i) (aVar i) := ⟨pe_var hN hv hd hcd, sim_var i⟩
theorem sim_c {v : V} {d : D} (h : ∀ F, Rep K F v d) : SimE B K (tC v) (aC d) := fun σ s F C R H Q P hs hS a k => k d v F C H (Ex.refl F) hS (h F) a
theorem ae_int {i j} : AE B X (.Constant (.int i) j pos) (tC (.int i)) (aC (.int i)) := ⟨pe_int, sim_c fun _ => .int i⟩
theorem ae_bl {b j} : AE B X (.Constant (.bool b) j pos) (tC (.bl b)) (aC (.bl b)) := ⟨pe_bl, sim_c fun _ => .bl b⟩
theorem ae_non {j} : AE B X (.Constant .none j pos) (tC .non) (aC .non) := ⟨pe_non, sim_c fun _ => .non⟩
theorem ae_str {x j} : AE B X (.Constant (.str x) j pos) (tC (.str x)) (aC (.str x)) := ⟨pe_str, sim_c fun _ => .str x⟩
def aOp (r : D → D → AH → (D → AH → Prop) → Prop) (a b : AE') : AE' := fun s C P => a s C fun x C1 => b s C1 fun y C2 => r x y C2 P
def aUn (r : D → AH → (D → AH → Prop) → Prop) (a : AE') : AE' := fun s C P => a s C fun x C1 => r x C1 P
theorem sim_op {r : R2} {ar} {ta tb : TE} {a b : AE'} (hr : SimR2 B K r ar) (ha : SimE B K ta a) (hb : SimE B K tb b) : SimE B K (tOp r ta tb) (aOp ar a b) := by
  intro σ s F C R H Q P hs hS h k
  refine ha σ s F C R H _ _ hs hS h fun x v F1 C1 H1 e1 S1 r1 h1 => ?_
  refine hb σ s F1 C1 R H1 _ _ (hs.mono e1) S1 h1 fun y w F2 C2 H2 e2 S2 r2 h2 => ?_
  exact hr v w x y F2 C2 R H2 Q P S2 (r1.mono e2) r2 h2 fun d u F3 C3 H3 e3 S3 r3 h3 => k d u F3 C3 H3 ((e1.trans e2).trans e3) S3 r3 h3
theorem sim_un {r : V → Hp → VK → Prop} {ar} {ta : TE} {a : AE'} (hr : SimR1 B K r ar) (ha : SimE B K ta a) : SimE B K (tUn r ta) (aUn ar a) := by
  intro σ s F C R H Q P hs hS h k
  refine ha σ s F C R H _ _ hs hS h fun x v F1 C1 H1 e1 S1 r1 h1 => ?_
  exact hr v x F1 C1 R H1 Q P S1 r1 h1 fun d u F3 C3 H3 e3 S3 r3 h3 => k d u F3 C3 H3 (e1.trans e3) S3 r3 h3
/-- an operation f by values -/
structure AOp (B : Bs) (X : Cx) (f : Value → Value → Sem Value) (r : R2) (a : D → D → AH → (D → AH → Prop) → Prop) : Prop where
  op : OpR X f r
  sim : SimR2 B X.K r a
theorem ae_op {o : Operator} {r ar} {a b : Expr} {ta tb : TE} {aa ab : AE'} (ho : AOp B X (binaryOp o) r ar) (ha : AE B X a ta aa) (hb : AE B X b tb ab) : AE B X (.BinOp a o b pos) (tOp r ta tb) (aOp ar aa ab) := ⟨pe_op ho.op ha.pe hb.pe, sim_op ho.sim ha.sim hb.sim⟩
theorem ae_cmp {o : CmpOp} {r ar} {a b : Expr} {ta tb : TE} {aa ab : AE'} (ho : AOp B X (compareOp o) r ar) (ha : AE B X a ta aa) (hb : AE B X b tb ab) (hm : behindInMarks o b = false := by first | exact nomark _ | with_unfolding_all rfl) : AE B X (.Compare a [o] [b] pos) (tOp r ta tb) (aOp ar aa ab) :=
  ⟨pe_cmpR ho.op ha.pe hb.pe hm, sim_op ho.sim ha.sim hb.sim⟩
theorem SimR2.or {r r' : R2} {ar ar'} (h : SimR2 B K r ar) (h' : SimR2 B K r' ar') : SimR2 B K (fun x y H Q => r x y H Q ∨ r' x y H Q) (fun x y C P => ar x y C P ∨ ar' x y C P) := by
  intro v w d e F C R H Q P hS r1 r2 h0 k
  rcases h0 with q | q
  · exact .inl (h v w d e F C R H Q P hS r1 r2 q k)
  · exact .inr (h' v w d e F C R H Q P hS r1 r2 q k)
theorem SimR2.imp {r : R2} {ar ar' : D → D → AH → (D → AH → Prop) → Prop} (h : SimR2 B K r ar) (i : ∀ d e C P, ar' d e C P → ar d e C P) : SimR2 B K r ar' := fun v w d e F C R H Q P hS r1 r2 h0 k => h v w d e F C R H Q P hS r1 r2 (i d e C P h0) k
/-- ints in, a flat value out -/
def aI (c : Int → Int → Prop) (g : Int → Int → D) : D → D → AH → (D → AH → Prop) → Prop := fun x y C P => match x, y with
  | .int i, .int j => c i j ∧ P (g i j) C
  | _, _ => False
theorem simI {c : Int → Int → Prop} {g : Int → Int → V} {g' : Int → Int → D} (hg : ∀ F i j, Rep K F (g i j) (g' i j)) : SimR2 B K (rI c g) (aI c g') := by
  intro v w d e F C R H Q P hS r1 r2 h k
  unfold aI at h
  split at h
  · cases r1; cases r2
    exact ⟨_, _, rfl, rfl, h.1, k _ _ F C H (Ex.refl F) hS (hg F _ _) h.2⟩
  · exact h.elim
def aI0 (g : Int → Int → D) : D → D → AH → (D → AH → Prop) → Prop := fun x y C P => match x, y with
  | .int i, .int j => P (g i j) C
  | _, _ => False
theorem simI0 {g : Int → Int → V} {g' : Int → Int → D} (hg : ∀ F i j, Rep K F (g i j) (g' i j)) : SimR2 B K (rI0 g) (aI0 g') := by
  intro v w d e F C R H Q P hS r1 r2 h k
  unfold aI0 at h
  split at h
  · cases r1; cases r2
    exact ⟨_, _, rfl, rfl, k _ _ F C H (Ex.refl F) hS (hg F _ _) h⟩
  · exact h.elim
def aSub := aI0 fun i j => .int (i - j)
def aMul := aI CMul fun i j => .int (i * j)
def aDiv := aI CDiv fun i j => .int (i / j)
def aMod := aI (fun _ j => 0 < j) fun i j => .int (i % j)
def aLt := aI0 fun i j => .bl (decide (i < j))
def aLe := aI0 fun i j => .bl (decide (i ≤ j))
def aGt := aI0 fun i j => .bl (decide (j < i))
def aGe := aI0 fun i j => .bl (decide (j ≤ i))
def aPow := aI CPow fun i j => .int (i ^ j.toNat)
theorem ao_sub : AOp B X (binaryOp .Sub) (rI0 fun i j => .int (i - j)) aSub := ⟨op_sub, simI0 fun _ _ _ => .int _⟩
theorem ao_mul : AOp B X (binaryOp .Mult) (rI CMul fun i j => .int (i * j)) aMul := ⟨op_mul, simI fun _ _ _ => .int _⟩
theorem ao_div : AOp B X (binaryOp .FloorDiv) (rI CDiv fun i j => .int (i / j)) aDiv := ⟨op_fdiv, simI fun _ _ _ => .int _⟩
theorem ao_mod : AOp B X (binaryOp .Mod) (rI (fun _ j => 0 < j) fun i j => .int (i % j)) aMod := ⟨op_mod, simI fun _ _ _ => .int _⟩
theorem ao_pow : AOp B X (binaryOp .Pow) (rI CPow fun i j => .int (i ^ j.toNat)) aPow := ⟨op_pow, simI fun _ _ _ => .int _⟩
theorem ao_lt : AOp B X (compareOp .Lt) (rI0 fun i j => .bl (decide (i < j))) aLt := ⟨op_lt, simI0 fun _ _ _ => .bl _⟩
theorem ao_le : AOp B X (compareOp .LtE) (rI0 fun i j => .bl (decide (i ≤ j))) aLe := ⟨op_le, simI0 fun _ _ _ => .bl _⟩
theorem ao_gt : AOp B X (compareOp .Gt) (rI0 fun i j => .bl (decide (j < i))) aGt := ⟨op_gt, simI0 fun _ _ _ => .bl _⟩
theorem ao_ge : AOp B X (compareOp .GtE) (rI0 fun i j => .bl (decide (j ≤ i))) aGe := ⟨op_ge, simI0 fun _ _ _ => .bl _⟩
def asL (C : AH) : D → Option (List D)
  | .lst ds => some ds
  | .ce p => match C p with | some (.lst ds) => some ds | _ => none
  | _ => none
def asLr (C : AH) : D → Option (List D)
  | .scr ns => some (ns.map D.int)
  | d => asL C d
def asT : D → Option (List D)
  | .tup ds => some ds
  | _ => none
section
variable {F : Hp} {C : AH} {R H : Hp} {v : V} {d : D} {ds : List D}
theorem asL_ok (hS : Sat B K F C R H) (r : Rep K F v d) (h : asL C d = some ds) : ∃ a xs, v = .ref a ∧ H a = some (.lst xs) ∧ RepL K F xs ds := by
  cases r with
  | lst e q => cases h; exact ⟨_, _, rfl, hS.ex _ _ e, q⟩
  | ce p =>
    simp only [asL] at h
    split at h
    · rename_i e
      cases h
      obtain ⟨_, o, h1, h2⟩ := hS.cell p _ e
      cases h2 with
      | lst q => exact ⟨p, _, rfl, h1, q⟩
    · cases h
  | _ => cases h
theorem asLr_ok (hS : Sat B K F C R H) (r : Rep K F v d) (h : asLr C d = some ds) : ∃ a xs, v = .ref a ∧ SqL K H a xs ∧ RepL K F xs ds := by
  cases d with
  | scr ns =>
    cases r with
    | scr e => cases h; exact ⟨_, _, rfl, hS.ex.l e, .ints ns⟩
  | _ =>
    obtain ⟨a, xs, h1, h2, h3⟩ := asL_ok hS r (show asL C _ = some ds from h)
    exact ⟨a, xs, h1, SqL.of h2, h3⟩
theorem asT_ok (hS : Sat B K F C R H) (r : Rep K F v d) (h : asT d = some ds) : ∃ a xs, v = .ref a ∧ Rd H a (.tup xs) ∧ RepL K F xs ds := by
  cases r with
  | tup e q => cases h; exact ⟨_, _, rfl, rdUp e.1 hS.ex, q⟩
  | _ => cases h
end
/-- the order matters: what stands ahead is tried first -/
def aAdd : D → D → AH → (D → AH → Prop) → Prop := fun x y C P => match x, y with
  | .int i, .int j => P (.int (i + j)) C
  | .str i, .str j => i.length + j.length ≤ sizeLine ∧ P (.str (i ++ j)) C
  | .tup xs, .tup ys => xs.length + ys.length ≤ sizeLine ∧ P (.tup (xs ++ ys)) C
  | x, y => ∃ xs ys, asL C x = some xs ∧ asL C y = some ys ∧ xs.length + ys.length ≤ sizeLine ∧ P (.lst (xs ++ ys)) C
def rAddA (K : PySem.W.Frag) : R2 := fun x y H Q => (rI0 (fun i j => .int (i + j)) x y H Q ∨ (∃ i j, x = .str i ∧ y = .str j ∧ i.length + j.length ≤ sizeLine ∧ Q (.str (i ++ j)) H)) ∨ rCatTN K x y H Q ∨ rCat x y H Q
theorem sim_add : SimR2 B K (rAddA K) aAdd := by
  intro v w d e F C R H Q P hS r1 r2 h k
  unfold aAdd at h
  split at h
  · cases r1; cases r2
    exact .inl (.inl ⟨_, _, rfl, rfl, k _ _ F C H (Ex.refl F) hS (.int _) h⟩)
  · cases r1; cases r2
    exact .inl (.inr ⟨_, _, rfl, rfl, h.1, k _ _ F C H (Ex.refl F) hS (.str _) h.2⟩)
  · cases r1 with
    | @tup a xs us h1 q1 =>
      cases r2 with
      | @tup b ys ws h2 q2 =>
        refine .inr (.inl ⟨a, b, xs, ys, rfl, rfl, h1.sq hS.ex, h2.sq hS.ex, by rw [q1.length, q2.length]; exact h.1, fun z => ?_, fun _ z => ?_, fun _ _ p ob hob hp => ?_⟩)
        · subst z
          cases q1
          exact k _ _ F C H (Ex.refl F) hS (.tup h2 q2) h.2
        · subst z
          cases q2
          have := h.2
          rw [List.append_nil] at this
          exact k _ _ F C H (Ex.refl F) hS (.tup h1 q1) this
        · have e := Ex.new (o := .frz ob (.tup (xs ++ ys))) (hS.freeF hp)
          exact k _ _ _ C _ e (hS.newF hp _) (.tup (.frz hob upd_same) ((q1.append q2).mono e)) h.2
  · obtain ⟨xs', ys', h1, h2, hl, h3⟩ := h
    obtain ⟨a, xs, e1, ha, q1⟩ := asL_ok hS r1 h1
    obtain ⟨b, ys, e2, hb, q2⟩ := asL_ok hS r2 h2
    refine .inr (.inr ⟨a, b, xs, ys, e1, e2, ha, hb, by rw [q1.length, q2.length]; exact hl, fun p hp => ?_⟩)
    have e := Ex.new (o := .lst (xs ++ ys)) (hS.freeF hp)
    exact k _ _ _ C _ e (hS.newF hp _) (.lst upd_same ((q1.append q2).mono e)) h3
theorem ao_add (hK : X.K = K := by rfl) : AOp B X (binaryOp .Add) (rAddA K) aAdd := by
  subst hK
  exact ⟨(op_add.or op_add_str).or (op_catTN.or op_cat), sim_add⟩
end
end AL
namespace AL
open PySem PySem.Spec L2
variable {B : Bs}
section
variable {X : Cx} {pos : Pos} {K : PySem.W.Frag}
mutual
/-- the tree as the library's data (none: a cell within it) -/
def D.pd : D → Option PyData
  | .non => some .none
  | .bl b => some (.bool b)
  | .int i => some (.int i)
  | .str x => some (.str x)
  | .lst ds => (pdL ds).map .list
  | .tup ds => (pdL ds).map .tuple
  | .scr ns => some (.list (ns.map .int))
  | _ => none
def pdL : List D → Option (List PyData)
  | [] => some []
  | d :: ds => match D.pd d, pdL ds with | some x, some xs => some (x :: xs) | _, _ => none
end
def pdC (C : AH) : D → Option PyData
  | .ce p => match C p with | some (.lst ds) => (pdL ds).map .list | _ => none
  | d => d.pd
mutual
theorem Rep.dp {F H : Hp} (e : Ex F H) : ∀ {d : D} {v : V} {x : PyData}, Rep K F v d → d.pd = some x → Dp K H v x
  | .non, _, _, r, h => by cases r; cases h; exact .non
  | .bl b, _, _, r, h => by cases r; cases h; exact .bl b
  | .int i, _, _, r, h => by cases r; cases h; exact .int i
  | .str x, _, _, r, h => by cases r; cases h; exact .str x
  | .lst ds, _, _, r, h => by
    cases r with
    | lst h1 h2 =>
      unfold D.pd at h
      cases q : pdL ds with
      | none => rw [q] at h; cases h
      | some xs => rw [q] at h; cases h; exact .lst (SqL.of (e _ _ h1)) (RepL.dp e h2 q)
  | .tup ds, _, _, r, h => by
    cases r with
    | tup h1 h2 =>
      unfold D.pd at h
      cases q : pdL ds with
      | none => rw [q] at h; cases h
      | some xs => rw [q] at h; cases h; exact .tup (h1.sq e) (RepL.dp e h2 q)
  | .scr ns, _, _, r, h => by
    cases r with
    | scr h1 => 
      cases h
      refine .lst (e.l h1) ?_
      clear h1
      induction ns with
      | nil => exact .nil
      | cons n ns ih => exact .cons (.int n) ih
  | .dk _, _, _, _, h => by unfold D.pd at h; cases h
  | .ce _, _, _, _, h => by unfold D.pd at h; cases h
theorem RepL.dp {F H : Hp} (e : Ex F H) : ∀ {ds : List D} {vs : List V} {xs : List PyData}, RepL K F vs ds → pdL ds = some xs → DpAll K H vs xs
  | [], _, _, r, h => by cases r; cases h; exact .nil
  | d :: ds, _, _, r, h => by
    cases r with
    | cons r1 r2 =>
      unfold pdL at h
      split at h
      · rename_i q1 q2
        cases h
        exact .cons (Rep.dp e r1 q1) (RepL.dp e r2 q2)
      · cases h
end
theorem pdC_ok {F : Hp} {C : AH} {R H : Hp} {v : V} {d : D} {x : PyData} (hS : Sat B K F C R H) (r : Rep K F v d) (h : pdC C d = some x) : Dp K H v x := by
  cases d with
  | ce p =>
    cases r
    simp only [pdC] at h
    split at h
    · rename_i ds e
      cases q : pdL ds with
      | none => rw [q] at h; cases h
      | some xs =>
        rw [q] at h; cases h
        obtain ⟨_, o, h1, h2⟩ := hS.cell p _ e
        cases h2 with
        | lst h3 => exact .lst (SqL.of h1) (RepL.dp hS.ex h3 q)
    · cases h
  | _ => exact Rep.dp hS.ex r h
/-- flat values, == by itself -/
def eqS : D → D → Option Bool
  | .non, .non => some true
  | .non, .int _ => some false
  | .int _, .non => some false
  | .non, .bl _ => some false
  | .bl _, .non => some false
  | .non, .str _ => some false
  | .str _, .non => some false
  | .int i, .int j => some (decide (i = j))
  | .bl i, .bl j => some (decide (i = j))
  | .str i, .str j => some (decide (i = j))
  | .int _, .str _ => some false
  | .str _, .int _ => some false
  | .bl _, .str _ => some false
  | .str _, .bl _ => some false
  | _, _ => none
theorem eqS_ok {F : Hp} {v w : V} {d e : D} {b : Bool} (r1 : Rep K F v d) (r2 : Rep K F w e) (h : eqS d e = some b) : scal v w = true ∧ decide (v = w) = b := by
  unfold eqS at h
  split at h <;> first | (cases h; done) | (cases r1; cases r2; cases h; refine ⟨rfl, ?_⟩; first | rfl | (apply Bool.eq_iff_iff.mpr; simp; done))
def aEqN (neg : Bool) : D → D → AH → (D → AH → Prop) → Prop := fun x y C P => match eqS x y with
  | some b => P (.bl (if neg then !b else b)) C
  | none => ∃ d e, pdC C x = some d ∧ pdC C y = some e ∧ SeqAt.shaped d = true ∧ SeqAt.shaped e = true ∧ P (.bl (if neg then !PyData.eqv d e else PyData.eqv d e)) C
def aEq := aEqN false
def aNe := aEqN true
theorem sim_eq : SimR2 B K (fun x y H Q => rEq x y H Q ∨ rEqD K x y H Q) aEq := by
  intro v w d e F C R H Q P hS r1 r2 h k
  unfold aEq aEqN at h
  split at h
  · rename_i b q
    obtain ⟨h1, h2⟩ := eqS_ok r1 r2 q
    exact .inl ⟨h1, k _ _ F C H (Ex.refl F) hS (by rw [h2]; exact .bl b) h⟩
  · obtain ⟨d', e', h1, h2, s1, s2, h3⟩ := h
    exact .inr ⟨d', e', pdC_ok hS r1 h1, pdC_ok hS r2 h2, s1, s2, k _ _ F C H (Ex.refl F) hS (.bl _) h3⟩
theorem sim_ne : SimR2 B K (fun x y H Q => rNe x y H Q ∨ rNeD K x y H Q) aNe := by
  intro v w d e F C R H Q P hS r1 r2 h k
  unfold aNe aEqN at h
  split at h
  · rename_i b q
    obtain ⟨h1, h2⟩ := eqS_ok r1 r2 q
    exact .inl ⟨h1, k _ _ F C H (Ex.refl F) hS (by rw [h2]; exact .bl _) h⟩
  · obtain ⟨d', e', h1, h2, s1, s2, h3⟩ := h
    exact .inr ⟨d', e', pdC_ok hS r1 h1, pdC_ok hS r2 h2, s1, s2, k _ _ F C H (Ex.refl F) hS (.bl _) h3⟩
theorem ao_eq (hu : X.A.units + 64 < cLine) (hK : X.K = K := by rfl) : AOp B X (compareOp .Eq) (fun x y H Q => rEq x y H Q ∨ rEqD K x y H Q) aEq := by
  subst hK
  exact ⟨op_eq.or (op_eqD hu), sim_eq⟩
theorem ao_ne (hu : X.A.units + 64 < cLine) (hK : X.K = K := by rfl) : AOp B X (compareOp .NotEq) (fun x y H Q => rNe x y H Q ∨ rNeD K x y H Q) aNe := by
  subst hK
  exact ⟨op_ne.or (op_neD hu), sim_ne⟩
/-- is None -/
def isNon : D → Bool
  | .non => true
  | _ => false
def aIsN : D → D → AH → (D → AH → Prop) → Prop := fun x y C P => isNon y = true ∧ P (.bl (isNon x)) C
def aNotN : D → D → AH → (D → AH → Prop) → Prop := fun x y C P => isNon y = true ∧ P (.bl (!isNon x)) C
theorem isNon_ok {F : Hp} {v : V} {d : D} (r : Rep K F v d) : decide (v = .non) = isNon d := by
  cases r <;> rfl
theorem ao_is : AOp B X (compareOp .Is) (fun x y H Q => y = .non ∧ Q (.bl (decide (x = .non))) H) aIsN := ⟨op_isN, by
  intro v w d e F C R H Q P hS r1 r2 h k
  refine ⟨of_decide_eq_true ((isNon_ok r2).trans h.1), k _ _ F C H (Ex.refl F) hS (by rw [isNon_ok r1]; exact .bl _) h.2⟩⟩
theorem ao_isnot : AOp B X (compareOp .IsNot) (fun x y H Q => y = .non ∧ Q (.bl (!decide (x = .non))) H) aNotN := ⟨op_notN, by
  intro v w d e F C R H Q P hS r1 r2 h k
  refine ⟨of_decide_eq_true ((isNon_ok r2).trans h.1), k _ _ F C H (Ex.refl F) hS (by rw [isNon_ok r1]; exact .bl _) h.2⟩⟩
def truth (C : AH) : D → Option Bool
  | .non => some false
  | .bl b => some b
  | .int i => some (i != 0)
  | .str x => if x.length ≤ sizeLine then some ((x.length : Int) != 0) else none
  | .lst ds => some (!ds.isEmpty)
  | .tup ds => some (!ds.isEmpty)
  | .scr ns => some (!ns.isEmpty)
  | .dk kvs => some (!kvs.isEmpty)
  | .ce p => match C p with | some (.lst ds) => some (!ds.isEmpty) | some (.dk kvs) => some (!kvs.isEmpty) | _ => none
theorem RepL.empty {F : Hp} {vs : List V} {ds : List D} (r : RepL K F vs ds) : (!vs.isEmpty) = !ds.isEmpty := by cases r <;> rfl
theorem RepK.empty {F : Hp} {vs : List (Key × V)} {ds : List (Key × D)} (r : RepK K F vs ds) : (!vs.isEmpty) = !ds.isEmpty := by cases r <;> rfl
theorem truth_ok {F : Hp} {C : AH} {R H : Hp} {v : V} {d : D} {b : Bool} (hS : Sat B K F C R H) (r : Rep K F v d) (h : truth C d = some b) : TruV K v H b := by
  cases r with
  | non => cases h; rfl
  | bl b => cases h; rfl
  | int i => cases h; rfl
  | str x =>
    simp only [truth] at h
    split at h
    · rename_i hz
      cases h
      exact ⟨hz, rfl⟩
    · cases h
  | lst e q => cases h; exact .inl ⟨_, SqL.of (hS.ex _ _ e), q.empty.symm⟩
  | tup e q => cases h; exact .inr (.inl ⟨_, e.sq hS.ex, q.empty.symm⟩)
  | dk e q => cases h; exact .inr (.inr ⟨_, hS.ex _ _ e, q.empty.symm⟩)
  | scr e =>
    cases h
    refine .inl ⟨_, hS.ex.l e, ?_⟩
    rename_i ns
    cases ns <;> rfl
  | ce p =>
    simp only [truth] at h
    split at h
    · rename_i e
      cases h
      obtain ⟨_, o, h1, h2⟩ := hS.cell p _ e
      cases h2 with
      | lst q => exact .inl ⟨_, SqL.of h1, q.empty.symm⟩
    · rename_i e
      cases h
      obtain ⟨_, o, h1, h2⟩ := hS.cell p _ e
      cases h2 with
      | dk q => exact .inr (.inr ⟨_, h1, q.empty.symm⟩)
    · cases h
def aTru (a : AE') : AT' := fun s C P => a s C fun x C1 => match truth C1 x with | some b => P b C1 | none => False
theorem sim_tru {ta : TE} {a : AE'} (ha : SimE B K ta a) : SimT B K (fun σ H Q => ta σ H fun x H' => ∃ k, TruV K x H' k ∧ Q k H') (aTru a) := by
  intro σ s F C R H Q P hs hS h k
  refine ha σ s F C R H _ _ hs hS h fun x v F1 C1 H1 e1 S1 r1 h1 => ?_
  split at h1
  · rename_i b q
    exact ⟨b, truth_ok S1 r1 q, k b F1 C1 H1 e1 S1 h1⟩
  · exact h1.elim
theorem at_tru {e : Expr} {te : TE} {a : AE'} (h : AE B X e te a) (he : ∀ whole, isTrue e X.env whole = (do let v ← whole; standAt e.pos; holding [v] (truthy v)) := by intro _; rfl) (hK : X.K = K := by rfl) :
    AT B X e (fun σ H Q => te σ H fun x H' => ∃ k, TruV K x H' k ∧ Q k H') (aTru a) := by
  subst hK
  exact ⟨pt_truth h.pe he, sim_tru h.sim⟩
/-- a comparison's value as a test -/
def aB (a : AE') : AT' := fun s C P => a s C fun x C1 => match x with | .bl b => P b C1 | _ => False
theorem sim_B {ta : TE} {a : AE'} (ha : SimE B K ta a) : SimT B K (tTest ta) (aB a) := by
  intro σ s F C R H Q P hs hS h k
  refine ha σ s F C R H _ _ hs hS h fun x v F1 C1 H1 e1 S1 r1 h1 => ?_
  split at h1
  · cases r1
    exact ⟨_, rfl, k _ F1 C1 H1 e1 S1 h1⟩
  · exact h1.elim
theorem at_cmp {o : CmpOp} {r ar} {a b : Expr} {ta tb : TE} {aa ab : AE'} (ho : AOp B X (compareOp o) r ar) (ha : AE B X a ta aa) (hb : AE B X b tb ab) (hm : behindInMarks o b = false := by first | exact nomark _ | with_unfolding_all rfl) : AT B X (.Compare a [o] [b] pos) (tTest (tOp r ta tb)) (aB (aOp ar aa ab)) :=
  ⟨pt_cmpR ho.op ha.pe hb.pe hm, sim_B (sim_op ho.sim ha.sim hb.sim)⟩
/-- a < b < c -/
def aChain (r r' : D → D → AH → (D → AH → Prop) → Prop) (a b c : AE') : AE' := fun s C P => a s C fun x C1 => b s C1 fun y C2 => r x y C2 fun z C3 => match z with
  | .bl true => c s C3 fun w C4 => r' y w C4 P
  | .bl false => P (.bl false) C3
  | _ => False
theorem sim_chain {r r' : R2} {ar ar'} {ta tb tc : TE} {a b c : AE'} (hr : SimR2 B K r ar) (hr' : SimR2 B K r' ar') (ha : SimE B K ta a) (hb : SimE B K tb b) (hc : SimE B K tc c) : SimE B K (tChain r r' ta tb tc) (aChain ar ar' a b c) := by
  intro σ s F C R H Q P hs hS h k
  refine ha σ s F C R H _ _ hs hS h fun x v F1 C1 H1 e1 S1 r1 h1 => ?_
  refine hb σ s F1 C1 R H1 _ _ (hs.mono e1) S1 h1 fun y w F2 C2 H2 e2 S2 r2 h2 => ?_
  refine hr v w x y F2 C2 R H2 _ _ S2 (r1.mono e2) r2 h2 fun z u F3 C3 H3 e3 S3 r3 h3 => ?_
  split at h3
  · cases r3
    refine ⟨true, rfl, ?_⟩
    rw [if_pos rfl]
    refine hc σ s F3 C3 R H3 _ _ (hs.mono ((e1.trans e2).trans e3)) S3 h3 fun w' u' F4 C4 H4 e4 S4 r4 h4 => ?_
    exact hr' w u' y w' F4 C4 R H4 Q P S4 (r2.mono (e3.trans e4)) r4 h4 fun d u F5 C5 H5 e5 S5 r5 h5 => k d u F5 C5 H5 ((((e1.trans e2).trans e3).trans e4).trans e5) S5 r5 h5
  · cases r3
    refine ⟨false, rfl, ?_⟩
    rw [if_neg Bool.false_ne_true]
    exact k _ _ F3 C3 H3 ((e1.trans e2).trans e3) S3 (.bl false) h3
  · exact h3.elim
theorem ae_chain {o o' : CmpOp} {r r' ar ar'} {a b c : Expr} {ta tb tc : TE} {aa ab ac : AE'} (ho : AOp B X (compareOp o) r ar) (ho' : AOp B X (compareOp o') r' ar') (ha : AE B X a ta aa) (hb : AE B X b tb ab) (hc : AE B X c tc ac)
    (hm : lastMarks [o, o'] [b, c] = false := by first | rfl | with_unfolding_all rfl) : AE B X (.Compare a [o, o'] [b, c] pos) (tChain r r' ta tb tc) (aChain ar ar' aa ab ac) :=
  ⟨pe_chain ho.op ho'.op ha.pe hb.pe hc.pe hm, sim_chain ho.sim ho'.sim ha.sim hb.sim hc.sim⟩
def aAnd (a b : AT') : AT' := fun s C P => a s C fun c C1 => if c = true then b s C1 P else P false C1
def aOr (a b : AT') : AT' := fun s C P => a s C fun c C1 => if c = true then P true C1 else b s C1 P
def aNot (a : AT') : AT' := fun s C P => a s C fun c C1 => P (!c) C1
theorem sim_and {t u : TT} {a b : AT'} (ha : SimT B K t a) (hb : SimT B K u b) : SimT B K (tAnd t u) (aAnd a b) := by
  intro σ s F C R H Q P hs hS h k
  refine ha σ s F C R H _ _ hs hS h fun c F1 C1 H1 e1 S1 h1 => ?_
  cases c with
  | true => exact hb σ s F1 C1 R H1 Q P (hs.mono e1) S1 h1 fun c F2 C2 H2 e2 S2 h2 => k c F2 C2 H2 (e1.trans e2) S2 h2
  | false => exact k false F1 C1 H1 e1 S1 h1
theorem sim_or {t u : TT} {a b : AT'} (ha : SimT B K t a) (hb : SimT B K u b) : SimT B K (tOr t u) (aOr a b) := by
  intro σ s F C R H Q P hs hS h k
  refine ha σ s F C R H _ _ hs hS h fun c F1 C1 H1 e1 S1 h1 => ?_
  cases c with
  | false => exact hb σ s F1 C1 R H1 Q P (hs.mono e1) S1 h1 fun c F2 C2 H2 e2 S2 h2 => k c F2 C2 H2 (e1.trans e2) S2 h2
  | true => exact k true F1 C1 H1 e1 S1 h1
theorem sim_not {t : TT} {a : AT'} (ha : SimT B K t a) : SimT B K (tNot t) (aNot a) := by
  intro σ s F C R H Q P hs hS h k
  exact ha σ s F C R H _ _ hs hS h fun c F1 C1 H1 e1 S1 h1 => k (!c) F1 C1 H1 e1 S1 h1
section
variable {a b : Expr} {t u : TT} {ta tb : TE} {xa xb : AT'} {aa ab : AE'} {rest : List Expr}
theorem aw_and1 (h : AT B X a t xa) : AW B X (.BoolOp .And [a] pos) t xa := ⟨pw_and1 h.pt, h.sim⟩
theorem aw_or1 (h : AT B X a t xa) : AW B X (.BoolOp .Or [a] pos) t xa := ⟨pw_or1 h.pt, h.sim⟩
theorem aw_and (h : AT B X a t xa) (g : AW B X (.BoolOp .And (b :: rest) pos) u xb) : AW B X (.BoolOp .And (a :: b :: rest) pos) (tAnd t u) (aAnd xa xb) := ⟨pw_and h.pt g.pw, sim_and h.sim g.sim⟩
theorem aw_or (h : AT B X a t xa) (g : AW B X (.BoolOp .Or (b :: rest) pos) u xb) : AW B X (.BoolOp .Or (a :: b :: rest) pos) (tOr t u) (aOr xa xb) := ⟨pw_or h.pt g.pw, sim_or h.sim g.sim⟩
theorem aw_t (h : AW B X a t xa) : AT B X a t xa := ⟨h.pw.pt, h.sim⟩
theorem at_not (h : AT B X a t xa) : AT B X (.UnaryOp .Not a pos) (tNot t) (aNot xa) := ⟨pt_not h.pt, sim_not h.sim⟩
/-- as values -/
def aAndV (a b : AE') : AE' := fun s C P => a s C fun x C1 => match truth C1 x with | some true => b s C1 P | some false => P x C1 | none => False
def aOrV (a b : AE') : AE' := fun s C P => a s C fun x C1 => match truth C1 x with | some true => P x C1 | some false => b s C1 P | none => False
def aNotV (a : AE') : AE' := fun s C P => a s C fun x C1 => match truth C1 x with | some b => P (.bl (!b)) C1 | none => False
theorem sim_andV (ha : SimE B K ta aa) (hb : SimE B K tb ab) : SimE B K (tAndT K ta tb) (aAndV aa ab) := by
  intro σ s F C R H Q P hs hS h k
  refine ha σ s F C R H _ _ hs hS h fun x v F1 C1 H1 e1 S1 r1 h1 => ?_
  split at h1
  · rename_i q
    refine ⟨true, truth_ok S1 r1 q, ?_⟩
    rw [if_pos rfl]
    exact hb σ s F1 C1 R H1 Q P (hs.mono e1) S1 h1 fun d u F2 C2 H2 e2 S2 r2 h2 => k d u F2 C2 H2 (e1.trans e2) S2 r2 h2
  · rename_i q
    refine ⟨false, truth_ok S1 r1 q, ?_⟩
    rw [if_neg Bool.false_ne_true]
    exact k x v F1 C1 H1 e1 S1 r1 h1
  · exact h1.elim
theorem sim_orV (ha : SimE B K ta aa) (hb : SimE B K tb ab) : SimE B K (tOrT K ta tb) (aOrV aa ab) := by
  intro σ s F C R H Q P hs hS h k
  refine ha σ s F C R H _ _ hs hS h fun x v F1 C1 H1 e1 S1 r1 h1 => ?_
  split at h1
  · rename_i q
    refine ⟨true, truth_ok S1 r1 q, ?_⟩
    rw [if_pos rfl]
    exact k x v F1 C1 H1 e1 S1 r1 h1
  · rename_i q
    refine ⟨false, truth_ok S1 r1 q, ?_⟩
    rw [if_neg Bool.false_ne_true]
    exact hb σ s F1 C1 R H1 Q P (hs.mono e1) S1 h1 fun d u F2 C2 H2 e2 S2 r2 h2 => k d u F2 C2 H2 (e1.trans e2) S2 r2 h2
  · exact h1.elim
theorem sim_notV (ha : SimE B K ta aa) : SimE B K (tNotT K ta) (aNotV aa) := by
  intro σ s F C R H Q P hs hS h k
  refine ha σ s F C R H _ _ hs hS h fun x v F1 C1 H1 e1 S1 r1 h1 => ?_
  split at h1
  · rename_i b q
    exact ⟨b, truth_ok S1 r1 q, k _ _ F1 C1 H1 e1 S1 (.bl _) h1⟩
  · exact h1.elim
theorem ae_one {op} (h : AE B X a ta aa) : AE B X (.BoolOp op [a] pos) ta aa := ⟨pe_one h.pe, h.sim⟩
theorem ae_and (h : AE B X a ta aa) (g : AE B X (.BoolOp .And (b :: rest) pos) tb ab) (hK : X.K = K := by rfl) : AE B X (.BoolOp .And (a :: b :: rest) pos) (tAndT K ta tb) (aAndV aa ab) := by
  subst hK
  exact ⟨pe_andT h.pe g.pe, sim_andV h.sim g.sim⟩
theorem ae_or (h : AE B X a ta aa) (g : AE B X (.BoolOp .Or (b :: rest) pos) tb ab) (hK : X.K = K := by rfl) : AE B X (.BoolOp .Or (a :: b :: rest) pos) (tOrT K ta tb) (aOrV aa ab) := by
  subst hK
  exact ⟨pe_orT h.pe g.pe, sim_orV h.sim g.sim⟩
theorem ae_not (h : AE B X a ta aa) (hK : X.K = K := by rfl) : AE B X (.UnaryOp .Not a pos) (tNotT K ta) (aNotV aa) := by
  subst hK
  exact ⟨pe_notT h.pe, sim_notV h.sim⟩
def aIf (t : AT') (a b : AE') : AE' := fun s C P => t s C fun c C1 => if c = true then a s C1 P else b s C1 P
def aNeg : D → AH → (D → AH → Prop) → Prop := fun x C P => match x with | .int i => P (.int (-i)) C | _ => False
theorem ae_neg (h : AE B X a ta aa) : AE B X (.UnaryOp .USub a pos) (tUn (rU fun i => .int (-i)) ta) (aUn aNeg aa) := ⟨pe_un un_neg h.pe, sim_un (by
  intro v d F C R H Q P hS r h0 k
  unfold aNeg at h0
  split at h0
  · cases r; exact ⟨_, rfl, k _ _ F C H (Ex.refl F) hS (.int _) h0⟩
  · exact h0.elim) h.sim⟩
end
def aNil : AA' := fun _ C P => P [] C
def aCons (a : AE') (r : AA') : AA' := fun s C P => a s C fun x C1 => r s C1 fun xs C2 => P (x :: xs) C2
theorem sim_nil : SimA B K 0 tNil aNil := fun σ s F C R H Q P hs hS h k => k [] [] F C H (Ex.refl F) hS .nil rfl h
theorem sim_cons {n : Nat} {ta : TE} {tr : TA} {a : AE'} {r : AA'} (ha : SimE B K ta a) (hr : SimA B K n tr r) : SimA B K (n + 1) (tCons ta tr) (aCons a r) := by
  intro σ s F C R H Q P hs hS h k
  refine ha σ s F C R H _ _ hs hS h fun x v F1 C1 H1 e1 S1 r1 h1 => ?_
  refine hr σ s F1 C1 R H1 _ _ (hs.mono e1) S1 h1 fun xs vs F2 C2 H2 e2 S2 r2 hl h2 => ?_
  exact k (x :: xs) (v :: vs) F2 C2 H2 (e1.trans e2) S2 (.cons (r1.mono e2) r2) (by rw [List.length_cons, hl]) h2
theorem aa_nil : AA B X [] 0 tNil aNil := ⟨pa_nil, sim_nil⟩
theorem aa_cons {e : Expr} {es : List Expr} {n : Nat} {te : TE} {t : TA} {a : AE'} {r : AA'} (h : AE B X e te a) (g : AA B X es n t r) (hs : starEach (e :: es) X.env = (false, eval e X.env) :: starEach es X.env := by rfl) : AA B X (e :: es) (n + 1) (tCons te t) (aCons a r) := ⟨pa_cons h.pe g.pa hs, sim_cons h.sim g.sim⟩
def aTup (a : AA') : AE' := fun s C P => a s C fun ds C1 => ds.length ≤ sizeLine ∧ P (.tup ds) C1
def aLst (a : AA') : AE' := fun s C P => a s C fun ds C1 => ds.length ≤ sizeLine ∧ P (.lst ds) C1
def aLstM (a : AA') : AE' := fun s C P => a s C fun ds C1 => ds.length ≤ sizeLine ∧ ∀ p, C1 p = none → P (.ce p) (put C1 p (.lst ds))
theorem ae_tup {es : List Expr} {n : Nat} {t : TA} {a : AA'} {x1} (h : AA B X es n t a) : AE B X (.Tuple es x1 pos) (tTupN t) (aTup a) := ⟨pe_tupN h.pa, by
  intro σ s F C R H Q P hs hS h0 k
  refine h.sim σ s F C R H _ _ hs hS h0 fun ds vs F1 C1 H1 e1 S1 r1 hl h1 => ⟨by rw [r1.length]; exact h1.1, fun p ob hob hp => ?_⟩
  have e := Ex.new (o := .frz ob (.tup vs)) (S1.freeF hp)
  exact k _ _ _ C1 _ (e1.trans e) (S1.newF hp _) (.tup (.frz hob upd_same) (r1.mono e)) h1.2⟩
theorem ae_lst {es : List Expr} {n : Nat} {t : TA} {a : AA'} (h : AA B X es n t a) : AE B X (.List es pos) (tLst t) (aLst a) := ⟨pe_lst h.pa, by
  intro σ s F C R H Q P hs hS h0 k
  refine h.sim σ s F C R H _ _ hs hS h0 fun ds vs F1 C1 H1 e1 S1 r1 hl h1 => ⟨by rw [r1.length]; exact h1.1, fun p hp => ?_⟩
  have e := Ex.new (o := .lst vs) (S1.freeF hp)
  exact k _ _ _ C1 _ (e1.trans e) (S1.newF hp _) (.lst upd_same (r1.mono e)) h1.2⟩
theorem ae_lstM {es : List Expr} {n : Nat} {t : TA} {a : AA'} (h : AA B X es n t a) : AE B X (.List es pos) (tLst t) (aLstM a) := ⟨pe_lst h.pa, by
  intro σ s F C R H Q P hs hS h0 k
  refine h.sim σ s F C R H _ _ hs hS h0 fun ds vs F1 C1 H1 e1 S1 r1 hl h1 => ⟨by rw [r1.length]; exact h1.1, fun p hp => ?_⟩
  exact k _ _ F1 _ _ e1 (S1.newC hp (.lst r1)) (.ce p) (h1.2 p (S1.freeC hp))⟩
end
end AL
namespace AL
open PySem PySem.Spec L2
variable {B : Bs}
section
variable {X : Cx} {pos : Pos} {K : PySem.W.Frag}
def asS (C : AH) : D → Option (List D)
  | .tup ds => some ds
  | d => asLr C d
def aIx : D → D → AH → (D → AH → Prop) → Prop := fun x y C P => match x, y with
  | .str z, .int i => z.length ≤ sizeLine ∧ (match atI z.cps.toList i with | some c => P (.str ⟨#[c]⟩) C | none => False)
  | x, .int i => (match asS C x with | some ds => (match atI ds i with | some d => P d C | none => False) | none => False)
  | _, _ => False
theorem RepL.atI {F : Hp} {vs : List V} {ds : List D} {i : Int} {d : D} (r : RepL K F vs ds) (h : atI ds i = some d) : ∃ v, L2.atI vs i = some v ∧ Rep K F v d := by
  unfold L2.atI at h ⊢
  rw [r.length]
  cases q : ixN ds.length i with
  | none => rw [q] at h; cases h
  | some j =>
    rw [q] at h
    obtain ⟨v, h1, h2⟩ := r.getD (show ds[j]? = some d from h)
    exact ⟨v, h1, h2⟩
theorem sim_ix : SimR2 B K (rIx K) aIx := by
  intro v w d e F C R H Q P hS r1 r2 h k
  unfold aIx at h
  split at h
  · cases r1; cases r2
    obtain ⟨hz, h⟩ := h
    split at h
    · rename_i c q
      exact .inr (.inr ⟨_, _, c, rfl, rfl, hz, q, k _ _ F C H (Ex.refl F) hS (.str _) h⟩)
    · exact h.elim
  · cases r2
    split at h
    · rename_i ds q
      split at h
      · rename_i d' q2
        cases d with
        | tup us =>
          cases q
          obtain ⟨a, xs, e1, h1, h2⟩ := asT_ok hS r1 rfl
          obtain ⟨v', h3, h4⟩ := h2.atI q2
          exact .inr (.inl ⟨a, xs, _, v', e1, rfl, SqT.of h1, h3, k _ _ F C H (Ex.refl F) hS h4 h⟩)
        | _ =>
          obtain ⟨a, xs, e1, h1, h2⟩ := asLr_ok hS r1 (show asLr C _ = some ds from q)
          obtain ⟨v', h3, h4⟩ := h2.atI q2
          exact .inl ⟨a, xs, _, v', e1, rfl, h1, h3, k _ _ F C H (Ex.refl F) hS h4 h⟩
      · exact h.elim
    · exact h.elim
  · exact h.elim
theorem ae_ix {a b : Expr} {ta tb : TE} {aa ab : AE'} (ha : AE B X a ta aa) (hb : AE B X b tb ab) (hs : PlainIx b := by exact fun _ _ => rfl) (hK : X.K = K := by rfl) : AE B X (.Subscript a b pos) (tOp (rIx K) ta tb) (aOp aIx aa ab) := by
  subst hK
  exact ⟨pe_ix ix_seq ha.pe hb.pe hs, sim_op sim_ix ha.sim hb.sim⟩
abbrev AO' := ASt → AH → (Option Int → AH → Prop) → Prop
def SimO (B : Bs) (K : PySem.W.Frag) (to : TO) (a : AO') : Prop := ∀ (σ : L2.St) (s : ASt) (F : Hp) (C : AH) (R H : Hp) (Q : Option Int → Hp → Prop) (P : Option Int → AH → Prop), Slo K F s σ → Sat B K F C R H → a s C P →
  (∀ o F' C' H', Ex F F' → Sat B K F' C' R H' → P o C' → Q o H') → to σ H Q
structure AO (B : Bs) (X : Cx) (e : Option Expr) (to : TO) (a : AO') : Prop where
  po : PO X e to
  sim : SimO B X.K to a
def aNoPart : AO' := fun _ C P => P none C
def aPart (a : AE') : AO' := fun s C P => a s C fun x C1 => match x with | .int i => P (some i) C1 | _ => False
theorem ao_none : AO B X none tNoPart aNoPart := ⟨po_none, fun σ s F C R H Q P hs hS h k => k none F C H (Ex.refl F) hS h⟩
theorem ao_some {e : Expr} {te : TE} {a : AE'} (h : AE B X e te a) : AO B X (some e) (tPart te) (aPart a) := ⟨po_some h.pe, by
  intro σ s F C R H Q P hs hS h0 k
  refine h.sim σ s F C R H _ _ hs hS h0 fun x v F1 C1 H1 e1 S1 r1 h1 => ?_
  split at h1
  · cases r1
    exact ⟨_, rfl, k _ F1 C1 H1 e1 S1 h1⟩
  · exact h1.elim⟩
def cutD (xs : List D) (lo hi : Option Int) : List D := (xs.drop (HT.sIx xs.length 0 lo)).take (HT.sIx xs.length xs.length hi - HT.sIx xs.length 0 lo)
theorem RepL.cut {F : Hp} {vs : List V} {ds : List D} (r : RepL K F vs ds) (lo hi : Option Int) : RepL K F (cutV vs lo hi) (cutD ds lo hi) := by
  unfold cutV cutD
  rw [r.length]
  exact (r.drop _).take _
def aSl (r : D → Option Int → Option Int → AH → (D → AH → Prop) → Prop) (a : AE') (l h : AO') : AE' := fun s C P => a s C fun x C1 => l s C1 fun i C2 => h s C2 fun j C3 => r x i j C3 P
def SimRS (B : Bs) (K : PySem.W.Frag) (r : V → Option Int → Option Int → Hp → VK → Prop) (a : D → Option Int → Option Int → AH → (D → AH → Prop) → Prop) : Prop := ∀ (v : V) (d : D) (lo hi : Option Int) (F : Hp) (C : AH) (R H : Hp) (Q : VK) (P : D → AH → Prop), Sat B K F C R H → Rep K F v d → a d lo hi C P →
  (∀ d v F' C' H', Ex F F' → Sat B K F' C' R H' → Rep K F' v d → P d C' → Q v H') → r v lo hi H Q
theorem sim_sl {r ar} {ta : TE} {tl th : TO} {a : AE'} {l h : AO'} (hr : SimRS B K r ar) (ha : SimE B K ta a) (hl : SimO B K tl l) (hh : SimO B K th h) : SimE B K (tSl r ta tl th) (aSl ar a l h) := by
  intro σ s F C R H Q P hs hS h0 k
  refine ha σ s F C R H _ _ hs hS h0 fun x v F1 C1 H1 e1 S1 r1 h1 => ?_
  refine hl σ s F1 C1 R H1 _ _ (hs.mono e1) S1 h1 fun i F2 C2 H2 e2 S2 h2 => ?_
  refine hh σ s F2 C2 R H2 _ _ (hs.mono (e1.trans e2)) S2 h2 fun j F3 C3 H3 e3 S3 h3 => ?_
  exact hr v x i j F3 C3 R H3 Q P S3 (r1.mono (e2.trans e3)) h3 fun d u F4 C4 H4 e4 S4 r4 h4 => k d u F4 C4 H4 (((e1.trans e2).trans e3).trans e4) S4 r4 h4
def aCut : D → Option Int → Option Int → AH → (D → AH → Prop) → Prop := fun x lo hi C P => match x with
  | .str z => z.length ≤ sizeLine ∧ P (.str (cutS z lo hi)) C
  | .tup ds => P (.tup (cutD ds lo hi)) C
  | x => (match asLr C x with | some ds => P (.lst (cutD ds lo hi)) C | none => False)
def rCutA (K : PySem.W.Frag) : V → Option Int → Option Int → Hp → VK → Prop := fun x lo hi H Q => (rSlS x lo hi H Q ∨ rSlTN K x lo hi H Q) ∨ rSlL K x lo hi H Q
theorem cutD_all {ds : List D} {lo hi : Option Int} (h : HT.sIx ds.length 0 lo = 0 ∧ HT.sIx ds.length ds.length hi = ds.length) : cutD ds lo hi = ds := by
  unfold cutD
  rw [h.1, h.2, List.drop_zero, Nat.sub_zero, List.take_length]
theorem sim_cut : SimRS B K (rCutA K) aCut := by
  intro v d lo hi F C R H Q P hS r1 h k
  unfold aCut at h
  split at h
  · cases r1
    exact .inl (.inl ⟨_, rfl, h.1, k _ _ F C H (Ex.refl F) hS (.str _) h.2⟩)
  · cases r1 with
    | @tup a xs us h1 q1 =>
      refine .inl (.inr ⟨a, xs, rfl, h1.sq hS.ex, fun z => ?_, fun _ p ob hob hp => ?_⟩)
      · rw [q1.length] at z
        rw [cutD_all z] at h
        exact k _ _ F C H (Ex.refl F) hS (.tup h1 q1) h
      · have e := Ex.new (o := .frz ob (.tup (cutV xs lo hi))) (hS.freeF hp)
        exact k _ _ _ C _ e (hS.newF hp _) (.tup (.frz hob upd_same) ((q1.cut lo hi).mono e)) h
  · split at h
    · rename_i ds q
      obtain ⟨a, xs, e1, h1, h2⟩ := asLr_ok hS r1 q
      refine .inr ⟨a, xs, e1, h1, fun p hp => ?_⟩
      have e := Ex.new (o := .lst (cutV xs lo hi)) (hS.freeF hp)
      exact k _ _ _ C _ e (hS.newF hp _) (.lst upd_same ((h2.cut lo hi).mono e)) h
    · exact h.elim
theorem ae_cut {e : Expr} {lo hi : Option Expr} {te : TE} {tl th : TO} {a : AE'} {l h : AO'} {p2 : Pos} (he : AE B X e te a) (hl : AO B X lo tl l) (hh : AO B X hi th h) (hK : X.K = K := by rfl) : AE B X (.Subscript e (.Slice lo hi none p2) pos) (tSl (rCutA K) te tl th) (aSl aCut a l h) := by
  subst hK
  exact ⟨pe_slice ((sl_str.or sl_tupN).or sl_list) he.pe hl.po hh.po, sim_sl sim_cut he.sim hl.sim hh.sim⟩
/-- xs[::-1], a list -/
def aRev : D → AH → (D → AH → Prop) → Prop := fun x C P => match asLr C x with | some ds => P (.lst ds.reverse) C | none => False
structure ACa (B : Bs) (X : Cx) (f : Value) (r : List V → Hp → VK → Prop) (a : ASp) : Prop where
  op : CallR X f r
  sim : SimRL B X.K r a
def aCall (asp : ASp) (a : AA') : AE' := fun s C P => a s C fun ds C1 => asp ds C1 P
theorem sim_callB {n : Nat} {r : List V → Hp → VK → Prop} {ar : ASp} {ta : TA} {a : AA'} (hr : SimRL B K r ar) (ha : SimA B K n ta a) : SimE B K (tCB r ta) (aCall ar a) := by
  intro σ s F C R H Q P hs hS h k
  refine ha σ s F C R H _ _ hs hS h fun ds vs F1 C1 H1 e1 S1 r1 hl h1 => ?_
  exact hr vs ds F1 C1 R H1 Q P S1 r1 h1 fun d u F3 C3 H3 e3 S3 r3 h3 => k d u F3 C3 H3 (e1.trans e3) S3 r3 h3
section
variable {e : Expr} {es : List Expr} {n : Nat} {t : TA} {a : AA'} {r : List V → Hp → VK → Prop} {ar : ASp} {x : Str} {p : Pos} {id T : String}
theorem ae_callB (hc : ACa B X (.builtin id) r ar) (hm : X.mg x = none) (hv : bootBuiltins x = some (.builtin id)) (ha : AA B X (e :: es) n t a) (hg : Gl X x := by rfl) (hn : x ≠ "__name__" := by decide) (hdb : (x == ("__debug__" : Str)) = false := by decide)
    (he : starEach (e :: es) X.env = (false, eval e X.env) :: starEach es X.env := by rfl) (hpl : (backTo pos (starEach es X.env)).any (·.1) = false := by rfl) : AE B X (.Call (.Name x p) (e :: es) [] pos) (tCB r t) (aCall ar a) :=
  ⟨pe_callB hc.op hg hm hv ha.pa hn hdb he hpl, sim_callB hc.sim ha.sim⟩
theorem ae_callT (hc : ACa B X (.type T) r ar) (hm : X.mg x = none) (hv : bootBuiltins x = some (.type T)) (ha : AA B X (e :: es) n t a) (hg : Gl X x := by rfl) (hn : x ≠ "__name__" := by decide) (hdb : (x == ("__debug__" : Str)) = false := by decide)
    (he : starEach (e :: es) X.env = (false, eval e X.env) :: starEach es X.env := by rfl) (hpl : (backTo pos (starEach es X.env)).any (·.1) = false := by rfl) : AE B X (.Call (.Name x p) (e :: es) [] pos) (tCB r t) (aCall ar a) :=
  ⟨pe_callTy hc.op hg hm hv ha.pa hn hdb he hpl, sim_callB hc.sim ha.sim⟩
end
theorem asS_ok {F : Hp} {C : AH} {R H : Hp} {v : V} {d : D} {ds : List D} (hS : Sat B K F C R H) (r : Rep K F v d) (h : asS C d = some ds) : ∃ a xs, v = .ref a ∧ (SqL K H a xs ∨ SqT K H a xs) ∧ RepL K F xs ds := by
  cases d with
  | tup ws =>
    cases h
    obtain ⟨a, xs, e1, h1, h2⟩ := asT_ok hS r rfl
    exact ⟨a, xs, e1, .inr (SqT.of h1), h2⟩
  | _ =>
    obtain ⟨a, xs, e1, h1, h2⟩ := asLr_ok hS r (show asLr C _ = some ds from h)
    exact ⟨a, xs, e1, .inl h1, h2⟩
def aLen : ASp := fun ds C P => match ds with
  | [.str z] => z.length ≤ sizeLine ∧ P (.int z.length) C
  | [.ce q] => (match C q with | some (.lst us) => P (.int us.length) C | some (.dk us) => P (.int us.length) C | _ => False)
  | [.dk kvs] => P (.int kvs.length) C
  | [d] => (match asS C d with | some us => P (.int us.length) C | none => False)
  | _ => False
def rLenA (K : PySem.W.Frag) : List V → Hp → VK → Prop := fun xs H Q => (∃ x n, xs = [x] ∧ LenV K x H n ∧ Q (.int n) H) ∨ (∃ a kvs, xs = [V.ref a] ∧ H a = some (.dK kvs) ∧ Q (.int kvs.length) H)
theorem RepK.length {F : Hp} : ∀ {vs : List (Key × V)} {ds : List (Key × D)}, RepK K F vs ds → vs.length = ds.length
  | _, _, .nil => rfl
  | _, _, .cons _ t => by rw [List.length_cons, List.length_cons, RepK.length t]
theorem simLen : SimRL B K (rLenA K) aLen := by
  intro vs ds F C R H Q P hS r h k
  unfold aLen at h
  split at h
  · cases r with | cons r1 r2 => cases r2; cases r1; exact .inl ⟨_, _, rfl, ⟨h.1, rfl⟩, k _ _ F C H (Ex.refl F) hS (.int _) h.2⟩
  · cases r with
    | cons r1 r2 =>
      cases r2; cases r1
      split at h
      · rename_i e
        obtain ⟨_, o, h1, h2⟩ := hS.cell _ _ e
        cases h2 with
        | lst q => exact .inl ⟨_, _, rfl, .inl ⟨_, SqL.of h1, q.length.symm⟩, k _ _ F C H (Ex.refl F) hS (.int _) h⟩
      · rename_i e
        obtain ⟨_, o, h1, h2⟩ := hS.cell _ _ e
        cases h2 with
        | dk q => exact .inr ⟨_, _, rfl, h1, by rw [q.length]; exact k _ _ F C H (Ex.refl F) hS (.int _) h⟩
      · exact h.elim
  · cases r with | cons r1 r2 => cases r2; cases r1 with | dk e q => exact .inr ⟨_, _, rfl, hS.ex _ _ e, by rw [q.length]; exact k _ _ F C H (Ex.refl F) hS (.int _) h⟩
  · cases r with
    | cons r1 r2 =>
      cases r2
      split at h
      · rename_i us q
        obtain ⟨a, xs, e1, h1, h2⟩ := asS_ok hS r1 q
        subst e1
        rcases h1 with h1 | h1
        · exact .inl ⟨.ref a, _, rfl, .inl ⟨xs, h1, h2.length.symm⟩, k _ _ F C H (Ex.refl F) hS (.int _) h⟩
        · exact .inl ⟨.ref a, _, rfl, .inr ⟨xs, h1, h2.length.symm⟩, k _ _ F C H (Ex.refl F) hS (.int _) h⟩
      · exact h.elim
  · exact h.elim
theorem ac_len (hK : X.K = K := by rfl) : ACa B X (.builtin "len") (rLenA K) aLen := by
  subst hK
  exact ⟨call_len.or call_lenD, simLen⟩
def aAbs : ASp := fun ds C P => match ds with | [.int i] => P (.int (if i < 0 then -i else i)) C | _ => False
def aMax2 : ASp := fun ds C P => match ds with | [.int i, .int j] => P (.int (if j > i then j else i)) C | _ => False
def aMin2 : ASp := fun ds C P => match ds with | [.int i, .int j] => P (.int (if j < i then j else i)) C | _ => False
def aInt : ASp := fun ds C P => match ds with | [.int i] => P (.int i) C | [.bl b] => P (.int (if b then 1 else 0)) C | _ => False
/-- list(xs), tuple(xs) of a list, a tuple -/
def aListOf : ASp := fun ds C P => match ds with | [d] => (match asS C d with | some us => P (.lst us) C | none => False) | _ => False
def aTupleOf : ASp := fun ds C P => match ds with | [.tup us] => P (.tup us) C | [d] => (match asS C d with | some us => P (.tup us) C | none => False) | _ => False
theorem ac_list (hK : X.K = K := by rfl) : ACa B X (.type "list") (fun xs H Q => ∃ p ys, xs = [.ref p] ∧ (SqL K H p ys ∨ SqT K H p ys) ∧ ∀ l, H l = none → Q (.ref l) (upd H l (.lst ys))) aListOf := by
  subst hK
  exact ⟨call_list_of, by
  intro vs ds F C R H Q P hS r h k
  unfold aListOf at h
  split at h
  · cases r with
    | cons r1 r2 =>
      cases r2
      split at h
      · rename_i us q
        obtain ⟨a, xs, e1, h1, h2⟩ := asS_ok hS r1 q
        refine ⟨a, xs, by rw [e1], h1, fun p hp => ?_⟩
        have e := Ex.new (o := .lst xs) (hS.freeF hp)
        exact k _ _ _ C _ e (hS.newF hp _) (.lst upd_same (h2.mono e)) h
      · exact h.elim
  · exact h.elim⟩
theorem ac_tuple (hK : X.K = K := by rfl) : ACa B X (.type "tuple") (rTupOfN K) aTupleOf := by
  subst hK
  exact ⟨call_tuple_ofN, by
  intro vs ds F C R H Q P hS r h k
  unfold aTupleOf at h
  split at h
  · cases r with
    | cons r1 r2 =>
      cases r2
      cases r1 with
      | tup h1 h2 => exact ⟨_, _, rfl, .inr ⟨h1.sq hS.ex, k _ _ F C H (Ex.refl F) hS (.tup h1 h2) h⟩⟩
  · rename_i d hd
    cases r with
    | cons r1 r2 =>
      cases r2
      split at h
      · rename_i us q
        have q' : asLr C d = some us := by
          cases d <;> first | exact q | exact absurd rfl (hd _)
        obtain ⟨a, xs, e1, h1, h2⟩ := asLr_ok hS r1 q'
        refine ⟨a, xs, by rw [e1], .inl ⟨h1, fun p ob hob hp => ?_⟩⟩
        have e := Ex.new (o := .frz ob (.tup xs)) (hS.freeF hp)
        exact k _ _ _ C _ e (hS.newF hp _) (.tup (.frz hob upd_same) (h2.mono e)) h
      · exact h.elim
  · exact h.elim⟩
/-- all, any, sum of a list -/
def blsD : List D → Option (List Bool)
  | [] => some []
  | .bl b :: ds => (blsD ds).map (b :: ·)
  | _ => none
def intsD : List D → Option (List Int)
  | [] => some []
  | .int b :: ds => (intsD ds).map (b :: ·)
  | _ => none
def strsD : List D → Option (List Str)
  | [] => some []
  | .str b :: ds => (strsD ds).map (b :: ·)
  | _ => none
@[simp] theorem bls_map (bs : List Bool) : blsD (bs.map D.bl) = some bs := by
  induction bs with
  | nil => rfl
  | cons b bs ih => simp [blsD, ih]
@[simp] theorem ints_map (bs : List Int) : intsD (bs.map D.int) = some bs := by
  induction bs with
  | nil => rfl
  | cons b bs ih => simp [intsD, ih]
@[simp] theorem strs_map (bs : List Str) : strsD (bs.map D.str) = some bs := by
  induction bs with
  | nil => rfl
  | cons b bs ih => simp [strsD, ih]
def kindOf (C : AH) : D → Option String
  | .non => some "NoneType" | .bl _ => some "bool" | .int _ => some "int" | .str _ => some "str" | .lst _ => some "list" | .tup _ => some "tuple" | .dk _ => some "dict" | .scr _ => some "list"
  | .ce p => match C p with | some (.lst _) => some "list" | some (.dk _) => some "dict" | _ => none
theorem kindOf_ok {F : Hp} {C : AH} {R H : Hp} {v : V} {d : D} {t : String} (hS : Sat B K F C R H) (r : Rep K F v d) (h : kindOf C d = some t) : TyX K H v (.type t) := by
  cases r with
  | non => cases h; exact .base .non
  | bl b => cases h; exact .base (.bl b)
  | int i => cases h; exact .base (.int i)
  | str x => cases h; exact .base (.str x)
  | lst e q => cases h; exact .base (.lst (hS.ex _ _ e))
  | tup e q =>
    cases h
    rcases e.1 with e | ⟨o, e⟩
    · exact .base (.tup (hS.ex _ _ e))
    · exact .fTuple (hS.ex _ _ e)
  | dk e q => cases h; exact .base (.dK (hS.ex _ _ e))
  | scr e =>
    cases h
    rcases hS.ex.l e with (e | ⟨o, e⟩) | ⟨o, its, n, e, c, _⟩
    · exact .base (.lst e)
    · exact .base (.frz e)
    · exact .kList e c
  | ce p =>
    simp only [kindOf] at h
    split at h
    · rename_i e; cases h
      obtain ⟨_, o, h1, h2⟩ := hS.cell p _ e
      cases h2; exact .base (.lst h1)
    · rename_i e; cases h
      obtain ⟨_, o, h1, h2⟩ := hS.cell p _ e
      cases h2; exact .base (.dK h1)
    · cases h
def isT (T t : String) : Bool := t == T || (t == "bool" && T == "int")
theorem isT_ok : ∀ t ∈ ["NoneType", "bool", "int", "str", "list", "tuple", "dict"], ∀ T ∈ ["bool", "int", "str", "list", "tuple", "dict"], kitB t T = some (isT T t) := by decide +kernel
theorem kindOf_mem {C : AH} {d : D} {t : String} (h : kindOf C d = some t) : t ∈ ["NoneType", "bool", "int", "str", "list", "tuple", "dict"] := by
  unfold kindOf at h
  split at h <;> first | (cases h; decide) | (split at h <;> first | (cases h; decide) | cases h)
def aIsi (T : String) (a : AE') : AE' := fun s C P => a s C fun x C1 => match kindOf C1 x with | some t => P (.bl (isT T t)) C1 | none => False
theorem ae_isi {e : Expr} {te : TE} {a : AE'} {T : Str} {Tn : String} {p p2 : Pos} (h : AE B X e te a) (hm : X.mg "isinstance" = none) (hmT : X.mg T = none) (hv : bootBuiltins T = some (.type Tn)) (hT : Tn ∈ ["bool", "int", "str", "list", "tuple", "dict"] := by decide)
    (hg : Gl X "isinstance" := by rfl) (hgT : Gl X T := by rfl) (hb : bootBuiltins "isinstance" = some (.builtin "isinstance") := by decide +kernel) (hnT : T ≠ "__name__" := by decide) (hdT : (T == ("__debug__" : Str)) = false := by decide)
    (he : starEach [e, .Name T p2] X.env = (false, eval e X.env) :: starEach [.Name T p2] X.env := by rfl) (hpl : (backTo pos (starEach [.Name T p2] X.env)).any (·.1) = false := by rfl) (h2 : starEach [.Name T p2] X.env = (false, eval (.Name T p2) X.env) :: starEach [] X.env := by rfl) (hK : X.K = K := by rfl) :
    AE B X (.Call (.Name "isinstance" p) [e, .Name T p2] [] pos) (tCB (rIsi K) (tCons te (tCons (tC (.ty Tn)) tNil))) (aIsi Tn a) := by
  subst hK
  exact ⟨pe_callB call_isi hg hm hb (pa_cons h.pe (pa_cons (pe_bltn hgT hmT hv rfl hnT hdT) pa_nil h2) he) (by decide) (by decide) he hpl, by
    intro σ s F C R H Q P hs hS h0 k
    refine h.sim σ s F C R H _ _ hs hS h0 fun x v F1 C1 H1 e1 S1 r1 h1 => ?_
    split at h1
    · rename_i t q
      exact ⟨v, .ty Tn, .type t, .type Tn, isT Tn t, rfl, .ty Tn, kindOf_ok S1 r1 q, kit_ty (isT_ok t (kindOf_mem q) Tn hT), k _ _ F1 C1 H1 e1 S1 (.bl _) h1⟩
    · exact h1.elim⟩
end
end AL
namespace AL
open PySem PySem.Spec L2
variable {B : Bs}
open PyProof.Rows (envOfC)
section
variable {X : Cx} {pos : Pos} {K : PySem.W.Frag}
def spOf (w : Gd) (K : PySem.W.Frag) (n : Nat) (asp : ASp) : Sp := fun vs H Q _ => vs.length = n ∧ ∃ F C R ds P, Sat (Bs.nil w) K F C R H ∧ RepL K F vs ds ∧ asp ds C P ∧ ∀ d v F' C' H', Ex F F' → Sat (Bs.nil w) K F' C' R H' → Rep K F' v d → P d C' → Q v H'
/-- a def's promise, where no guard stands (so that repr may be asked) -/
structure FnG (P : Program) (w : World) (K : PySem.W.Frag) (mg : Str → Option Value) (base : Heap) (k : Nat) (f : Addr) (fd : FuncData) (ps : List Str) (sp : Sp) : Prop where
  len : ∀ vs H Q E, sp vs H Q E → vs.length = ps.length
  run : ∀ (A : Around) (out : List Env) (s : Shared) (H : Hp) (args : Args) (us : List Value) (vs : List V) (Q : VK) (E : XK), Room k A → A.guards = some [] → Env0 P w K mg base A out s H →
    BindsTo s fd args (ps.zip us) → Vals vs us → sp vs H Q E → codeAny (model P w) A (.call (.ref f) args) (CR (L2.CX P w) out P w H s Q E) s
theorem FnG.imp {P : Program} {w : World} {K : PySem.W.Frag} {mg : Str → Option Value} {base : Heap} {k : Nat} {f : Addr} {fd : FuncData} {ps : List Str} {sp sp' : Sp} (G : FnG P w K mg base k f fd ps sp) (h : ∀ vs H Q E, sp' vs H Q E → sp vs H Q E) : FnG P w K mg base k f fd ps sp' :=
  ⟨fun vs H Q E q => G.len vs H Q E (h _ _ _ _ q), fun A out s H args us vs Q E hr hg he hb hv hs => G.run A out s H args us vs Q E hr hg he hb hv (h _ _ _ _ hs)⟩
/-- by its body -/
theorem fnG_of {P : Program} {w : World} {K : PySem.W.Frag} {mg : Str → Option Value} {base : Heap} {x qual : Str} {st : Stmt} {f : Addr} {fd : FuncData} {N ps : List Str} {k : Nat} {sp : Sp} (F : L2.Fun K x qual st f fd) (S : FnScope N ps (defScope st)) (len : ∀ vs H Q E, sp vs H Q E → vs.length = ps.length)
    (hbody : ∀ (cdv : Value) (A : Around) (out : List Env) (s : Shared) (H : Hp) (vs : List V) (Q : VK) (E : XK), Room k (A.deeper (envOfC qual (defScope st) s.heap.objs.size f cdv)) → A.guards = some [] → sp vs H Q E →
      ∃ t, PSs (cxOf (L2.CX P w) P w K mg base N qual (defScope st) f cdv A out s H E) (defBody st) t ∧ t { nx := fun _ H1 => Q .non H1, rt := Q } (start N vs) H) : FnG P w K mg base (k + 1) f fd ps sp := by
  obtain ⟨oc, od, kV, doc, pm, an, cdv, ct, osl, rfl, lk, hcd⟩ := F.ex
  refine ⟨len, fun A out s H args us vs Q E hr hg e0 hb rv hsp => ?_⟩
  have kin := e0.mod.kin.keeps fun b o e => (e0.bs b o e).1
  have nol := e0.mod.nolimit.keeps fun b o e => (e0.bs b o e).1
  have knd : ∀ z ∈ ps.zip us, (defScope st).names.lookup z.1 = some .local ∨ ((defScope st).names.lookup z.1 = some .cell ∧ ((cellsFrom (s.heap.objs.size + 1) (defScope st).names []).lookup z.1).isSome = true) := by
    intro z hz
    obtain ⟨n, v⟩ := z
    exact (S.par n (List.of_mem_zip hz).1).elim .inl fun q => .inr ⟨q, PySem.W.cellsFrom_some _ _ _ (.inl q)⟩
  refine codeAny_call_function hr.depth (kin _ _ lk) rfl S.co S.gen rfl (PySem.W.codeRec_of kin hcd) (hb _ _ _ _ (wpAny_newFunctionEnv_cells S.kind knd fun env he s1 made => ?_))
  subst he
  refine ⟨nol.keeps made.toInCall.keep, codeAny_func ?_⟩
  obtain ⟨t, ht, q0⟩ := hbody cdv A out s H vs Q E (hr.deeper _) hg hsp
  refine wpAny_mono (ht.run [] s1 (start N vs) H _ (inv_start S hr.hd e0 (len _ _ _ _ hsp) rv made) q0) (fun fl s2 z => ?_) fun _ _ z => z
  have done : ∀ {σ2 : L2.St} {H2 : Hp} {v : V} {u : Value}, Inv (cxOf (L2.CX P w) P w K mg base N qual (defScope st) f cdv A out s H E) [] σ2 H2 s2 → RelV v u → Q v H2 → CE out P w H s Q u s2 := fun J r q => ⟨_, _, J.os, J.bare, J.base, J.hok, r, q⟩
  cases fl with
  | next => obtain ⟨σ2, H2, J, q⟩ := z; exact done (v := .non) (u := .none) J rfl q
  | ret u => obtain ⟨v, σ2, H2, J, r, q⟩ := z; exact done J r q
  | brk => obtain ⟨_, _, _, q⟩ := z; exact q.elim
  | cont => obtain ⟨_, _, _, q⟩ := z; exact q.elim
section
variable {k : Nat} {f : Addr} {fd : FuncData} {ps : List Str} {sp : Sp} {E : L2.St → XK} {x : Str} {p : Pos} {e : Expr} {es : List Expr} {t : TA}
theorem run_G {pins : List (Addr × Obj)} {σ : L2.St} {H : Hp} {s : Shared} {Q : VK} {us : List Value} {vs : List V} (G : FnG X.prog X.w X.K X.mg X.base k f fd ps sp) (hr : Room k X.A) (hgd : X.A.guards = some []) (hb : Binds X.K fd ps []) (hx : PassesAt (L2.CX X.prog X.w) X σ (E σ))
    (I : Inv X pins σ H s) (r : Vals vs us) (h : sp vs H Q (E σ)) : wpAny (model X.prog X.w) X.A (call (.ref f) us) (EP X pins σ Q) X.xe s := by
  have hl : us.length = ps.length := r.length.symm.trans (G.len _ _ _ _ h)
  have b := hb s us I.kIn ((congrArg List.length (List.append_nil us)).trans hl)
  rw [List.append_nil] at b
  refine wpAny_call (codeAny_mono (G.run X.A X.stack s H ⟨us, []⟩ us vs Q (E σ) hr hgd I.env0 b r h) fun res s2 z => ?_)
  match res, z with
  | .error e, z => exact hx pins H s e s2 I z
  | .ok (.ret u), z => exact I.after z
  | .ok .next, z => exact False.elim z
  | .ok .brk, z => exact False.elim z
  | .ok .cont, z => exact False.elim z
theorem pe_callG (G : FnG X.prog X.w X.K X.mg X.base k f fd ps sp) (hr : Room k X.A) (hgd : X.A.guards = some []) (hg : Gl X x) (hm : X.mg x = some (.ref f)) (hk : PySem.W.keepIn X.K (.ref f) = true) (hb : Binds X.K fd ps []) (hx : ∀ σ, PassesAt (L2.CX X.prog X.w) X σ (E σ))
    (ha : PA X (e :: es) t) (hdb : (x == ("__debug__" : Str)) = false := by decide) (he : starEach (e :: es) X.env = (false, eval e X.env) :: starEach es X.env := by rfl) (hpl : (backTo pos (starEach es X.env)).any (·.1) = false := by rfl) : PE X (.Call (.Name x p) (e :: es) [] pos) (tCallS sp E t) :=
  ⟨fun pins s σ H Q I h => wpAny_Call_Name_kw (ld_glob I hg hm (PySem.W.callWith_K (h₀ := X.base) I.ok.mod.kin hk (thn (ha.run pos pins s σ H _ I h) fun us s1 ⟨vs, H1, I1, r, q⟩ => ⟨I1.kIn, run_G G hr hgd hb (hx σ) I1 r q⟩) he hpl) hdb)⟩
end
abbrev E0S : L2.St → XK := fun _ _ _ _ => False
theorem passG {X : Cx} : ∀ σ, PassesAt (L2.CX X.prog X.w) X σ (E0S σ) := fun _ _ _ _ _ _ _ h => by
  obtain ⟨_, _, _, _, _, _, _, _, _, _, _, _, z⟩ := h
  exact z.elim
structure Cal (P : Program) (w : World) (K : PySem.W.Frag) (mg : Str → Option Value) (base : Heap) (k : Nat) (x : Str) (n : Nat) (asp : ASp) : Prop where
  ex : ∃ (f : Addr) (fd : FuncData) (ps : List Str), FnG P w K mg base k f fd ps (spOf ⟨w, mg⟩ K n asp) ∧ mg x = some (.ref f) ∧ PySem.W.keepIn K (.ref f) = true ∧ Binds K fd ps []
theorem sim_call {w : Gd} (hw : B.g = w) {n : Nat} {asp : ASp} {E : L2.St → XK} {ta : TA} {a : AA'} (ha : SimA B K n ta a) : SimE B K (tCallS (spOf w K n asp) E ta) (aCall asp a) := by
  subst hw
  intro σ s F C R H Q P hs hS h k
  refine ha σ s F C R H _ _ hs hS h fun ds vs F1 C1 H1 e1 S1 r1 hl h1 => ?_
  exact ⟨by rw [r1.length, hl], F1, C1, R, ds, P, S1.nil, r1, h1, fun d v F2 C2 H2 e2 S2 r2 h2 => k d v F2 C2 H2 (e1.trans e2) (S1.back e2 S2) r2 h2⟩
section
variable {e : Expr} {es : List Expr} {n : Nat} {t : TA} {a : AA'} {x : Str} {p : Pos} {asp : ASp} {k j : Nat}
theorem ae_call {g : Gd} (c : Cal X.prog X.w X.K X.mg X.base k x n asp) (hr : Room j X.A) (hgd : X.A.guards = some []) (ha : AA B X (e :: es) n t a) (hw : B.g = g := by first | rfl | assumption) (hX : (⟨X.w, X.mg⟩ : Gd) = g := by rfl) (hk : k ≤ j := by decide) (hg : Gl X x := by rfl)
    (hdb : (x == ("__debug__" : Str)) = false := by decide) (he : starEach (e :: es) X.env = (false, eval e X.env) :: starEach es X.env := by rfl) (hpl : (backTo pos (starEach es X.env)).any (·.1) = false := by rfl) (hK : X.K = K := by rfl) :
    AE B X (.Call (.Name x p) (e :: es) [] pos) (tCallS (spOf g K n asp) E0S t) (aCall asp a) := by
  subst hK
  exact ⟨by
  obtain ⟨f, fd, ps, F, hm, kp, b⟩ := c.ex
  rw [← hX]
  exact pe_callG F (hr.mono hk) hgd hg hm kp b passG ha.pa hdb he hpl, sim_call hw ha.sim⟩
end
/-- a def's body as what the def does -/
def aBody (n : Nat) (b : AS') : ASp := fun ds C P => b ⟨fun _ C' => P .non C', P, fun _ _ => False, fun _ _ => False⟩ (ds.map some ++ List.replicate (n - ds.length) none) C
theorem fnA {P : Program} {w : World} {K : PySem.W.Frag} {mg : Str → Option Value} {base : Heap} {x qual : Str} {st : Stmt} {f : Addr} {fd : FuncData} {N ps : List Str} {k : Nat} {b : AS'} {asp : ASp} (F : L2.Fun K x qual st f fd) (S : FnScope N ps (defScope st))
    (hbody : ∀ (cdv : Value) (A : Around) (outer : List Env) (s : Shared) (H : Hp) (E : XK), Room k (A.deeper (envOfC qual (defScope st) s.heap.objs.size f cdv)) → A.guards = some [] → ∃ ts, ASs (Bs.nil ⟨w, mg⟩) (cxOf (L2.CX P w) P w K mg base N qual (defScope st) f cdv A outer s H E).nox (defBody st) ts b)
    (h : ∀ ds C P, ds.length = ps.length → asp ds C P → aBody N.length b ds C P) : FnG P w K mg base (k + 1) f fd ps (spOf ⟨w, mg⟩ K ps.length asp) := by
  refine fnG_of F S (fun vs H Q E z => z.1) (fun cdv A outer s H vs Q E hr hg z => ?_)
  obtain ⟨ts, hps⟩ := hbody cdv A outer s H E hr hg
  obtain ⟨hl, F1, C, R, ds, P1, hS, hR, ha, hk⟩ := z
  refine ⟨ts, hps.ps.nox, ?_⟩
  have hb := h ds C P1 (by rw [← hR.length, hl]) ha
  refine hps.sim { nx := fun _ H' => Q .non H', rt := Q } ⟨fun _ C' => P1 .non C', P1, fun _ _ => False, fun _ _ => False⟩ _ _ F1 C R H ⟨fun s σ F' C' H' e _ S h => ?_, fun d v F' C' H' e r S h => ?_, fun _ _ _ _ _ _ _ _ h => h.elim, fun _ _ _ _ _ _ _ _ h => h.elim⟩ (Slo.start hR N.length) hS hb
  · exact hk .non .non F' C' H' e S .non h
  · exact hk d v F' C' H' e S r h
theorem calA {P : Program} {w : World} {K : PySem.W.Frag} {mg : Str → Option Value} {base : Heap} {x y qual : Str} {st : Stmt} {f : Addr} {fd : FuncData} {N ps : List Str} {k n : Nat} {b : AS'} {asp : ASp} (F : L2.Fun K x qual st f fd) (S : FnScope N ps (defScope st)) (hn : ps.length = n) (hm : mg y = some (.ref f)) (hb : Binds K fd ps [])
    (hbody : ∀ (cdv : Value) (A : Around) (outer : List Env) (s : Shared) (H : Hp) (E : XK), Room k (A.deeper (envOfC qual (defScope st) s.heap.objs.size f cdv)) → A.guards = some [] → ∃ ts, ASs (Bs.nil ⟨w, mg⟩) (cxOf (L2.CX P w) P w K mg base N qual (defScope st) f cdv A outer s H E).nox (defBody st) ts b)
    (h : ∀ ds C P, ds.length = n → asp ds C P → aBody N.length b ds C P) : Cal P w K mg base (k + 1) y n asp := by
  subst hn
  exact ⟨f, fd, ps, fnA F S hbody h, hm, F.kp, hb⟩
structure AMt (B : Bs) (X : Cx) (id : String) (r : V → List V → Hp → VK → Prop) (a : D → ASp) : Prop where
  op : MtR X id r
  sim : SimRM B X.K r a
def isTy (T : String) (C : AH) (d : D) : Bool := match d with
  | .str _ => T == "str"
  | .lst _ => T == "list"
  | .scr _ => T == "list"
  | .dk _ => T == "dict"
  | .ce p => (match C p with | some (.lst _) => T == "list" | some (.dk _) => T == "dict" | _ => false)
  | _ => false
theorem isTy_ok {F : Hp} {C : AH} {R H : Hp} {v : V} {d : D} {T : String} (hS : Sat B K F C R H) (r : Rep K F v d) (h : isTy T C d = true) : tyV K T v H := by
  cases r with
  | str x => simpa [isTy, tyV] using h
  | lst e q => exact .inl ⟨by simpa [isTy] using h, _, SqL.of (hS.ex _ _ e)⟩
  | scr e => exact .inl ⟨by simpa [isTy] using h, _, hS.ex.l e⟩
  | dk e q => exact .inr (.inr (.inl ⟨by simpa [isTy] using h, .inl ⟨_, hS.ex _ _ e⟩⟩))
  | ce p =>
    simp only [isTy] at h
    split at h
    · rename_i e
      obtain ⟨_, o, h1, h2⟩ := hS.cell p _ e
      cases h2; exact .inl ⟨by simpa using h, _, SqL.of h1⟩
    · rename_i e
      obtain ⟨_, o, h1, h2⟩ := hS.cell p _ e
      cases h2; exact .inr (.inr (.inl ⟨by simpa using h, .inl ⟨_, h1⟩⟩))
    · cases h
  | _ => cases h
def aMeth (T : String) (m : D → ASp) (o : AE') (a : AA') : AE' := fun s C P => o s C fun x C1 => isTy T C1 x = true ∧ a s C1 fun ds C2 => m x ds C2 P
def aMeth0 (T : String) (m : D → ASp) (o : AE') : AE' := fun s C P => o s C fun x C1 => isTy T C1 x = true ∧ m x [] C1 P
section
variable {o e : Expr} {es : List Expr} {n : Nat} {to : TE} {t : TA} {ao : AE'} {a : AA'} {T id : String} {name : Str} {r : V → List V → Hp → VK → Prop} {ar : D → ASp} {apos cpos : Pos}
theorem ae_meth (pa : PlainAttrs T) (slot : Slot T name id) (hty : typeOf (.builtin id) = pure (.type "method_descriptor")) (hm : AMt B X id r ar) (ho : AE B X o to ao) (ha : AA B X (e :: es) n t a)
    (hbase : attributeBase o name X.env (eval o X.env) = eval o X.env := by rfl)
    (hfew : ((backTo cpos (starEach (e :: es) X.env)).all (fun x => !x.1) && (backToKw cpos (keywordEach [] X.env)).all (fun x => x.1.isSome)
      && decide ((e :: es).length + ([] : List Keyword).length + (if ([] : List Keyword).isEmpty then 0 else 1) < 30)) = true := by rfl)
    (hline : (apos.endLine == cpos.line) = true := by rfl) (hs : starEach (e :: es) X.env = (false, eval e X.env) :: starEach es X.env := by rfl) (hplain : (backTo cpos (starEach es X.env)).any (·.1) = false := by rfl) (hK : X.K = K := by rfl) :
    AE B X (.Call (.Attribute o name apos) (e :: es) [] cpos) (tBM K T r to t) (aMeth T ar ao a) := by
  subst hK
  exact ⟨pe_bm pa slot hty hm.op ho.pe ha.pa hbase hfew hline hs hplain, by
  intro σ s F C R H Q P hs hS h0 k
  refine ho.sim σ s F C R H _ _ hs hS h0 fun x v F1 C1 H1 e1 S1 r1 h1 => ⟨isTy_ok S1 r1 h1.1, ?_⟩
  refine ha.sim σ s F1 C1 R H1 _ _ (hs.mono e1) S1 h1.2 fun ds vs F2 C2 H2 e2 S2 r2 hl h2 => ?_
  exact hm.sim v x vs ds F2 C2 R H2 Q P S2 (r1.mono e2) r2 h2 fun d u F3 C3 H3 e3 S3 r3 h3 => k d u F3 C3 H3 ((e1.trans e2).trans e3) S3 r3 h3⟩
end
theorem cellL {F : Hp} {C : AH} {R H : Hp} {p : Addr} {ds : List D} (hS : Sat B K F C R H) (e : C p = some (.lst ds)) : ∃ xs, H p = some (.lst xs) ∧ RepL K F xs ds := by
  obtain ⟨_, o, h1, h2⟩ := hS.cell p _ e
  cases h2
  exact ⟨_, h1, by assumption⟩
def aAppend : D → ASp := fun x ds C P => match x, ds with
  | .ce p, [d] => (match C p with | some (.lst us) => us.length < sizeLine ∧ P .non (put C p (.lst (us ++ [d]))) | _ => False)
  | _, _ => False
theorem am_append : AMt B X "list.append" rAppend aAppend := ⟨fun pins s σ H x xs v us Q I r1 r2 h => mt_append pins s σ H x xs v us Q I r1 r2 h, by
  intro v d vs ds F C R H Q P hS r1 r2 h k
  unfold aAppend at h
  split at h
  · cases r1
    cases r2 with
    | cons r2 r3 =>
      cases r3
      split at h
      · rename_i e
        obtain ⟨xs, h1, h2⟩ := cellL hS e
        exact ⟨_, xs, _, rfl, rfl, h1, by rw [h2.length]; exact h.1, k _ _ F _ _ (Ex.refl F) (hS.mutC e (.lst (h2.append (.cons r2 .nil)))) .non h.2⟩
      · exact h.elim
  · exact h.elim⟩
theorem walk_l {F : Hp} {a : Addr} {ds : List D} {hold : AH → Prop} (h : ∀ F' C' R' H', Ex F F' → Sat B K F' C' R' H' → hold C' → ∃ xs, SqL K H' a xs ∧ RepL K F' xs ds) : Walks B K F ds hold (Itl K a) := by
  refine ⟨fun F' C' R' H' e S hc => ?_, fun F' C' R' H' i e S hc hi => ?_, fun F' C' R' H' i x H'' e S hc hi y => ?_⟩
  · obtain ⟨xs, h1, h2⟩ := h F' C' R' H' e S hc
    exact ⟨xs, h1, by rw [h2.length]; exact Nat.le_refl _⟩
  · obtain ⟨xs, h1, h2⟩ := h F' C' R' H' e S hc
    exact ⟨xs, xs[i]'(by rw [h2.length]; exact hi), h1, by simp⟩
  · obtain ⟨xs, h1, h2⟩ := h F' C' R' H' e S hc
    obtain ⟨e1, y⟩ := y
    subst e1
    obtain ⟨d, h3, h4⟩ := h2.get (y xs h1)
    exact ⟨d, F', h3, Ex.refl F', S, h4⟩
theorem asL_later {F F' : Hp} {C C' : AH} {R R' H H' : Hp} {v : V} {d : D} {ds : List D} (hS : Sat B K F C R H) (r : Rep K F v d) (h : asLr C d = some ds) (e : Ex F F') (S' : Sat B K F' C' R' H') (hc : asLr C' d = some ds) : ∀ a, v = .ref a → ∃ xs, SqL K H' a xs ∧ RepL K F' xs ds := by
  intro a ea
  obtain ⟨b, xs, e1, h1, h2⟩ := asLr_ok S' (r.mono e) hc
  rw [ea] at e1
  cases e1
  exact ⟨xs, h1, h2⟩
/-- for x in a list -/
def aIL (a : AE') : AI' := fun s C P => a s C fun x C1 => match asLr C1 x with | some ds => P ds (fun C' => asLr C' x = some ds) C1 | none => False
theorem ai_list {tg e : Expr} {te : TE} {a : AE'} (h : AE B X e te a) (hK : X.K = K := by rfl) : AI B X tg e (iList K te) (aIL a) := by
  subst hK
  exact ⟨pi_list h.pe, by
  intro σ s F C R H Q P hs hS h0 k
  refine h.sim σ s F C R H _ _ hs hS h0 fun x v F1 C1 H1 e1 S1 r1 h1 => ?_
  split at h1
  · rename_i ds q
    obtain ⟨b, xs, e2, h2, h3⟩ := asLr_ok S1 r1 q
    exact ⟨b, e2, ⟨xs, h2⟩, k ds _ _ F1 C1 H1 e1 S1 (walk_l fun F' C' R' H' e' S' hc => asL_later S1 r1 q e' S' hc b e2) h1⟩
  · exact h1.elim⟩
/-- for x in a tuple -/
def aIT (a : AE') : AI' := fun s C P => a s C fun x C1 => match asT x with | some ds => P ds (fun _ => True) C1 | none => False
def rangeD (lo : Int) (n : Nat) : List D := (List.range n).map fun (i : Nat) => D.int (lo + i)
theorem rangeD_get {lo : Int} {n i : Nat} (h : i < n) : (rangeD lo n)[i]? = some (.int (lo + i)) := by
  unfold rangeD
  rw [List.getElem?_map, List.getElem?_range h]
  rfl
theorem rangeD_len (lo : Int) (n : Nat) : (rangeD lo n).length = n := by
  unfold rangeD
  rw [List.length_map, List.length_range]
theorem walk_r {F : Hp} (lo : Int) (n : Nat) : Walks B K F (rangeD lo n) (fun _ => True) (Itr lo n) := by
  refine ⟨fun F' C' R' H' e S _ => ?_, fun F' C' R' H' i e S _ hi => ?_, fun F' C' R' H' i x H'' e S _ hi y => ?_⟩
  · rw [rangeD_len]; exact Nat.le_refl _
  · rw [rangeD_len] at hi; exact hi
  · rw [rangeD_len] at hi
    obtain ⟨e1, y⟩ := y
    subst e1; subst y
    exact ⟨_, F', rangeD_get hi, Ex.refl F', S, .int _⟩
def aIR1 (a : AA') : AI' := fun s C P => a s C fun ds C1 => match ds with | [.int j] => -(2 ^ 62) ≤ j ∧ j < 2 ^ 62 ∧ P (rangeD 0 j.toNat) (fun _ => True) C1 | _ => False
def aIR2 (a : AA') : AI' := fun s C P => a s C fun ds C1 => match ds with | [.int i, .int j] => (-(2 ^ 62) ≤ i ∧ i < 2 ^ 62 ∧ -(2 ^ 62) ≤ j ∧ j < 2 ^ 62) ∧ P (rangeD i (j - i).toNat) (fun _ => True) C1 | _ => False
theorem ai_range1 {tg e : Expr} {n : Nat} {ta : TA} {a : AA'} {p : Pos} (hm : X.mg "range" = none) (h : AA B X [e] n ta a) (hg : Gl X "range" := by rfl) (hs : starEach [e] X.env = [(false, eval e X.env)] := by rfl) : AI B X tg (.Call (.Name "range" p) [e] [] pos) (iRng1 ta) (aIR1 a) := ⟨pi_range1 hg hm h.pa hs, by
  intro σ s F C R H Q P hs hS h0 k
  refine h.sim σ s F C R H _ _ hs hS h0 fun ds vs F1 C1 H1 e1 S1 r1 hl h1 => ?_
  split at h1
  · cases r1 with | cons r1 r2 => cases r2; cases r1; exact ⟨_, rfl, h1.1, h1.2.1, k _ _ _ F1 C1 H1 e1 S1 (walk_r 0 _) h1.2.2⟩
  · exact h1.elim⟩
/-- a text, sign by sign -/
def signs (z : Str) : List D := z.cps.toList.map fun c => D.str ⟨#[c]⟩
def aIS (a : AE') : AI' := fun s C P => a s C fun x C1 => match x with | .str z => P (signs z) (fun _ => True) C1 | _ => False
/-- enumerate of a list -/
def enumD (ds : List D) : List D := (List.range ds.length).map fun (i : Nat) => D.tup [.int i, ds.getD i .non]
theorem enumD_len (ds : List D) : (enumD ds).length = ds.length := by unfold enumD; rw [List.length_map, List.length_range]
theorem enumD_get {ds : List D} {i : Nat} {d : D} (h : ds[i]? = some d) : (enumD ds)[i]? = some (.tup [.int i, d]) := by
  unfold enumD
  have hi := (List.getElem?_eq_some_iff.mp h).1
  rw [List.getElem?_map, List.getElem?_range hi]
  simp [List.getD, h]
def aIE (a : AA') : AI' := fun s C P => a s C fun us C1 => match us with | [x] => (match asLr C1 x with | some ds => P (enumD ds) (fun C' => asLr C' x = some ds) C1 | none => False) | _ => False
theorem ai_enum {e : Expr} {elts : List Expr} {kk n : Nat} {tpos p : Pos} {ta : TA} {a : AA'} (hm : X.mg "enumerate" = none) (h : AA B X [e] n ta a) (hg : Gl X "enumerate" := by rfl) (hs : starEach [e] X.env = [(false, eval e X.env)] := by rfl) (hK : X.K = K := by rfl) : AI B X (.Tuple elts kk tpos) (.Call (.Name "enumerate" p) [e] [] pos) (iEnum K ta) (aIE a) := by
  subst hK
  exact ⟨pi_enum hg hm h.pa hs, by
  intro σ s F C R H Q P hs hS h0 k
  refine h.sim σ s F C R H _ _ hs hS h0 fun us vs F1 C1 H1 e1 S1 r0 hl h1 => ?_
  split at h1
  · rename_i x
    cases r0 with
    | cons r1 r2 =>
      cases r2
      split at h1
      · rename_i ds q
        obtain ⟨b, xs, e2, h2, h3⟩ := asLr_ok S1 r1 q
        refine ⟨b, xs, by rw [e2], h2, k _ _ _ F1 C1 H1 e1 S1 ⟨fun F' C' R' H' e S hc => ?_, fun F' C' R' H' i e S hc hi => ?_, fun F' C' R' H' i x H'' e S hc hi y => ?_⟩ h1⟩
        · obtain ⟨xs', h4, h5⟩ := asL_later S1 r1 q e S hc b e2
          exact ⟨xs', h4, by rw [h5.length, enumD_len]; exact Nat.le_refl _⟩
        · obtain ⟨xs', h4, h5⟩ := asL_later S1 r1 q e S hc b e2
          rw [enumD_len] at hi
          exact ⟨xs', xs'[i]'(by rw [h5.length]; exact hi), h4, by simp⟩
        · obtain ⟨xs', h4, h5⟩ := asL_later S1 r1 q e S hc b e2
          obtain ⟨T, v, y1, y2, y3, y4⟩ := y
          subst y1; subst y3
          obtain ⟨d, h6, h7⟩ := h5.get (y4 xs' h4)
          have eN := Ex.new (o := .tup [.int (i : Nat), v]) (S.freeF y2)
          exact ⟨_, _, enumD_get h6, eN, S.newF y2 _, .tup ⟨.inl upd_same, fun z => by cases z⟩ (.cons (.int _) (.cons (h7.mono eN) .nil))⟩
      · exact h1.elim
  · exact h1.elim⟩
/-- zip of two lists -/
def zipD (xs ys : List D) : List D := (xs.zip ys).map fun p => D.tup [p.1, p.2]
def aIZ (a : AA') : AI' := fun s C P => a s C fun us C1 => match us with | [x, y] => (match asLr C1 x, asLr C1 y with | some ds, some es => P (zipD ds es) (fun C' => asLr C' x = some ds ∧ asLr C' y = some es) C1 | _, _ => False) | _ => False
end
end AL
namespace AL
open PySem PySem.Spec L2
variable {B : Bs}
section
variable {X : Cx} {pos : Pos} {K : PySem.W.Frag}
theorem EndsR.mono {F F' R : Hp} {E : AEnds} {D' : Ends} (h : EndsR B K F R E D') (e : Ex F F') : EndsR B K F' R E D' :=
  ⟨fun s σ G C H e1 hs S z => h.nx s σ G C H (e.trans e1) hs S z, fun d v G C H e1 r S z => h.rt d v G C H (e.trans e1) r S z, fun s σ G C H e1 hs S z => h.bk s σ G C H (e.trans e1) hs S z, fun s σ G C H e1 hs S z => h.ct s σ G C H (e.trans e1) hs S z⟩
def aGName (i : Nat) : AG' := fun d s C P => P (s.set i (some d)) C
theorem wipe_get (σ : L2.St) (i : Nat) : ∀ vs : List Nat, (L2.wipe σ vs)[i]? = if i ∈ vs then (if i < σ.length then some none else none) else σ[i]?
  | [] => by simp [L2.wipe]
  | v :: vs => by
    unfold L2.wipe
    by_cases h : i = v
    · subst h
      rw [if_pos List.mem_cons_self]
      by_cases hl : i < σ.length
      · rw [if_pos hl, List.getElem?_set_self (by rw [L2.wipe_length]; exact hl)]
      · rw [if_neg hl, List.getElem?_eq_none (by rw [List.length_set, L2.wipe_length]; omega)]
    · rw [List.getElem?_set_ne (Ne.symm h), wipe_get σ i vs]
      by_cases h2 : i ∈ vs
      · rw [if_pos h2, if_pos (List.mem_cons_of_mem _ h2)]
      · rw [if_neg h2, if_neg (by simp [h, h2])]
theorem wipe_set {σ : L2.St} {j : Nat} {x : Option V} {vs : List Nat} (h : j ∈ vs) : L2.wipe (σ.set j x) vs = L2.wipe σ vs := by
  apply List.ext_getElem?
  intro i
  rw [wipe_get, wipe_get, List.length_set]
  by_cases h2 : i ∈ vs
  · rw [if_pos h2, if_pos h2]
  · rw [if_neg h2, if_neg h2, List.getElem?_set_ne (fun z => h2 (by rw [← z]; exact h))]
theorem wipe_wipe (σ : L2.St) (vs : List Nat) : L2.wipe (L2.wipe σ vs) vs = L2.wipe σ vs := by
  apply List.ext_getElem?
  intro i
  rw [wipe_get, L2.wipe_length]
  by_cases h2 : i ∈ vs
  · rw [if_pos h2, wipe_get, if_pos h2]
  · rw [if_neg h2]
theorem ag_name (i : Nat) {vs : List Nat} {x : Str} (hN : X.N.Nodup) (hi : X.N[i]? = some x := by rfl) (hx : Loc X.env.scope x := by exact Or.inl rfl) (hv : i ∈ vs := by decide) (hf : X.fn x = true ∨ X.env.scope.names.lookup x = some .local := by first | exact .inl rfl | exact .inr rfl) : AG B X (.Name x pos) vs (gName i) (aGName i) :=
  ⟨pg_name hN hi hx hf, fun v d σ s F C R H Q P hs hS r h k => k _ _ F C H (Ex.refl F) (hs.set r i) hS h, fun x σ H Q Q' h k => k _ _ (wipe_set hv) h⟩
abbrev AGs' := List D → ASt → AH → (ASt → AH → Prop) → Prop
def SimGs (B : Bs) (K : PySem.W.Frag) (g : TGs) (a : AGs') : Prop := ∀ (vs : List V) (ds : List D) (σ : L2.St) (s : ASt) (F : Hp) (C : AH) (R H : Hp) (Q : L2.St → Hp → Prop) (P : ASt → AH → Prop), Slo K F s σ → Sat B K F C R H → RepL K F vs ds → a ds s C P →
  (∀ s' σ' F' C' H', Ex F F' → Slo K F' s' σ' → Sat B K F' C' R H' → P s' C' → Q σ' H') → g vs σ H Q
structure AGs (B : Bs) (X : Cx) (es : List Expr) (vs : List Nat) (g : TGs) (a : AGs') : Prop where
  pg : PGs X es g
  sim : SimGs B X.K g a
  inn : ∀ xs σ H (Q Q' : L2.St → Hp → Prop), g xs σ H Q → (∀ σ2 H2, L2.wipe σ2 vs = L2.wipe σ vs → Q σ2 H2 → Q' σ2 H2) → g xs σ H Q'
def aGNil : AGs' := fun ds s C P => match ds with | [] => P s C | _ => False
def aGCons (g : AG') (r : AGs') : AGs' := fun ds s C P => match ds with | d :: ds => g d s C fun s' C' => r ds s' C' P | [] => False
theorem ags_nil {vs : List Nat} : AGs B X [] vs gNil aGNil := ⟨pgs_nil, fun vs ds σ s F C R H Q P hs hS r h k => by
  unfold aGNil at h
  split at h
  · cases r
    exact ⟨rfl, k s σ F C H (Ex.refl F) hs hS h⟩
  · exact h.elim, fun xs σ H Q Q' h k => ⟨h.1, k _ _ rfl h.2⟩⟩
theorem ags_cons {e : Expr} {es : List Expr} {vs : List Nat} {g : TG} {r : TGs} {a : AG'} {b : AGs'} (h1 : AG B X e vs g a) (h2 : AGs B X es vs r b) (hs : (assignEach (e :: es) X.env).map (·.2) = assign e X.env :: (assignEach es X.env).map (·.2) := by rfl) : AGs B X (e :: es) vs (gCons g r) (aGCons a b) :=
  ⟨pgs_cons h1.pg h2.pg hs, fun vs ds σ s F C R H Q P hs hS rr h k => by
    unfold aGCons at h
    split at h
    · cases rr with
      | cons r1 r2 =>
        refine ⟨_, _, rfl, ?_⟩
        refine h1.sim _ _ σ s F C R H _ _ hs hS r1 h fun s1 σ1 F1 C1 H1 e1 hs1 S1 q1 => ?_
        exact h2.sim _ _ σ1 s1 F1 C1 R H1 Q P hs1 S1 (r2.mono e1) q1 fun s2 σ2 F2 C2 H2 e2 => k s2 σ2 F2 C2 H2 (e1.trans e2)
    · exact h.elim, fun xs σ H Q Q' h k => by
    obtain ⟨v, r, e, h⟩ := h
    refine ⟨v, r, e, ?_⟩
    exact h1.inn v σ H _ _ h fun σ1 H1 w1 q => h2.inn r σ1 H1 _ _ q fun σ2 H2 w2 q2 => k σ2 H2 (w2.trans w1) q2⟩
def aGTup (n : Nat) (g : AGs') : AG' := fun d s C P => match d with | .tup ds => ds.length = n ∧ g ds s C P | _ => False
theorem ag_tup {es : List Expr} {k n : Nat} {vs : List Nat} {t : TGs} {a : AGs'} (h : AGs B X es vs t a) (hc : X.calm = true := by rfl) (hn : (assignEach es X.env).length = n := by rfl) (hst : (assignEach es X.env).findIdx? (·.1) = none := by rfl) (hK : X.K = K := by rfl) : AG B X (.Tuple es k pos) vs (gTup K n t) (aGTup n a) := by
  subst hK
  exact ⟨pg_tup hc h.pg hn hst, fun v d σ s F C R H Q P hs hS r h0 kk => by
    unfold aGTup at h0
    split at h0
    · cases r with
      | tup e q =>
        exact ⟨_, _, rfl, e.sq hS.ex, by rw [q.length]; exact h0.1, h.sim _ _ σ s F C R H Q P hs hS q h0.2 kk⟩
    · exact h0.elim, fun x σ H Q Q' h0 kk => by
    obtain ⟨a, xs, e, hq, hl, h0⟩ := h0
    exact ⟨a, xs, e, hq, hl, h.inn xs σ H _ _ h0 kk⟩⟩
/-- xs[i] = .., a list -/
def aGSet (o i : AE') : AG' := fun d s C P => o s C fun x C1 => i s C1 fun y C2 => match x, y with
  | .ce p, .int j => (match C2 p with | some (.lst us) => (match ixN us.length j with | some k => P s (put C2 p (.lst (us.set k d))) | none => False) | _ => False)
  | _, _ => False
theorem sim_set {to ti : TE} {ao ai : AE'} (ho : SimE B K to ao) (hi : SimE B K ti ai) : SimG B K (gSub to ti rSetL) (aGSet ao ai) := by
  intro v d σ s F C R H Q P hs hS r h k
  refine ho σ s F C R H _ _ hs hS h fun x w F1 C1 H1 e1 S1 r1 h1 => ?_
  refine hi σ s F1 C1 R H1 _ _ (hs.mono e1) S1 h1 fun y w2 F2 C2 H2 e2 S2 r2 h2 => ?_
  split at h2
  · cases r1
    cases r2
    split at h2
    · rename_i us e
      split at h2
      · rename_i j q
        obtain ⟨xs, h3, h4⟩ := cellL S2 e
        exact ⟨_, xs, _, j, rfl, rfl, h3, by rw [h4.length]; exact q, k s σ F2 _ _ (e1.trans e2) (hs.mono (e1.trans e2)) (S2.mutC e (.lst (h4.set (r.mono (e1.trans e2)) j))) h2⟩
      · exact h2.elim
    · exact h2.elim
  · exact h2.elim
def aNext : AS' := fun E s C => E.nx s C
def aSeq (a b : AS') : AS' := fun E s C => a { E with nx := b E } s C
theorem sim_next : SimS B K tNext aNext := fun D' E σ s F C R H hE hs hS h => hE.nx s σ F C H (Ex.refl F) hs hS h
theorem sim_seq {t u : TS} {a b : AS'} (ha : SimS B K t a) (hb : SimS B K u b) : SimS B K (tSeq t u) (aSeq a b) := fun D' E σ s F C R H hE hs hS h =>
  ha { D' with nx := u D' } { E with nx := b E } σ s F C R H ⟨fun s σ F' C' H' e hs S z => hb D' E σ s F' C' R H' (hE.mono e) hs S z, hE.rt, hE.bk, hE.ct⟩ hs hS h
theorem ass_nil : ASs B X [] tNext aNext := ⟨pss_nil, sim_next⟩
theorem ass_one {st : Stmt} {t : TS} {a : AS'} (h : AS B X st t a) : ASs B X [st] t a := ⟨pss_one h.ps, h.sim⟩
theorem ass_cons {st : Stmt} {rest : List Stmt} {t u : TS} {a b : AS'} (h : AS B X st t a) (g : ASs B X rest u b) : ASs B X (st :: rest) (tSeq t u) (aSeq a b) := ⟨pss_cons h.ps g.ps, sim_seq h.sim g.sim⟩
/-- a cell that is changed no more, in a slot -/
def aFrz (i : Nat) (a : AS') : AS' := fun E s C => match s[i]? with
  | some (some (.ce p)) => (match C p with | some (.lst ds) => a E (s.set i (some (.lst ds))) (del C p) | some (.dk es) => a E (s.set i (some (.dk es))) (del C p) | _ => False)
  | _ => False
theorem sim_frz {t : TS} {a : AS'} (i : Nat) (h : SimS B K t a) : SimS B K t (aFrz i a) := fun D' E σ s F C R H hE hs hS h0 => by
  unfold aFrz at h0
  split at h0
  · rename_i p e
    split at h0
    · rename_i ds e2
      obtain ⟨hF, o, h1, h2⟩ := hS.cell p _ e2
      have eN := Ex.new (o := o) hF
      refine h D' E σ _ (upd F p o) _ R H (hE.mono eN) ((hs.mono eN).reset e fun v r => ?_) (hS.freeze e2 h1) h0
      cases r
      cases h2 with
      | lst q => exact .lst upd_same (q.mono eN)
    · rename_i ds e2
      obtain ⟨hF, o, h1, h2⟩ := hS.cell p _ e2
      have eN := Ex.new (o := o) hF
      refine h D' E σ _ (upd F p o) _ R H (hE.mono eN) ((hs.mono eN).reset e fun v r => ?_) (hS.freeze e2 h1) h0
      cases r
      cases h2 with
      | dk q => exact .dk upd_same (q.mono eN)
    · exact h0.elim
  · exact h0.elim
theorem ass_frz {sts : List Stmt} {t : TS} {a : AS'} (i : Nat) (h : ASs B X sts t a) : ASs B X sts t (aFrz i a) := ⟨h.ps, sim_frz i h.sim⟩
def aAsg (e : AE') (g : AG') : AS' := fun E s C => e s C fun x C1 => g x s C1 E.nx
theorem sim_asg {te : TE} {g : TG} {a : AE'} {b : AG'} (ha : SimE B K te a) (hb : SimG B K g b) : SimS B K (tAsg te g) (aAsg a b) := fun D' E σ s F C R H hE hs hS h => by
  refine ha σ s F C R H _ _ hs hS h fun x v F1 C1 H1 e1 S1 r1 h1 => ?_
  exact hb v x σ s F1 C1 R H1 _ _ (hs.mono e1) S1 r1 h1 fun s2 σ2 F2 C2 H2 e2 hs2 S2 h2 => hE.nx s2 σ2 F2 C2 H2 (e1.trans e2) hs2 S2 h2
section
variable {e : Expr} {te : TE} {a : AE'}
theorem sim_name (i : Nat) : SimG B K (gName i) (aGName i) := fun v d σ s F C R H Q P hs hS r h k => k _ _ F C H (Ex.refl F) (hs.set r i) hS h
theorem as_set (i : Nat) {x : Str} {pos' : Pos} (hN : X.N.Nodup) (h : AE B X e te a) (hi : X.N[i]? = some x := by rfl) (hx : Loc X.env.scope x := by exact Or.inl rfl) (hs : swapsWith e (some (.Name x pos')) pos.line X.env = pure false := by rfl) (hf : X.fn x = true ∨ X.env.scope.names.lookup x = some .local := by first | exact .inl rfl | exact .inr rfl) :
    AS B X (.Assign [.Name x pos'] e pos) (tAsg te (gName i)) (aAsg a (aGName i)) := ⟨ps_set hN hi hx h.pe hs hf, sim_asg h.sim (sim_name i)⟩
/-- xs[i] = e -/
theorem as_setL {o i : Expr} {to ti : TE} {ao ai : AE'} {p2 : Pos} (h : AE B X e te a) (ho : AE B X o to ao) (hi : AE B X i ti ai) (hs : swapsWithSole [.Subscript o i p2] e pos.line X.env = pure false := by rfl) (hw : swappedStores [.Subscript o i p2] e X.env = pure none := by rfl)
    (h1 : (assignEach [.Subscript o i p2] X.env).map (·.2) = [assign (.Subscript o i p2) X.env] := by rfl)
    (ha : ∀ v, assign (.Subscript o i p2) X.env v = (do
      let ov ← holding [v] (eval o X.env)
      let iv ← holding [v, ov] (eval i X.env)
      standAt p2
      holding [v, ov, iv] (setItem ov iv v)
      release [v, ov, iv] []) := by intro _; rfl) : AS B X (.Assign [.Subscript o i p2] e pos) (tAsg te (gSub to ti rSetL)) (aAsg a (aGSet ao ai)) :=
  ⟨ps_asg h.pe (pg_sub ho.pe hi.pe set_list ha) hs hw h1, sim_asg h.sim (sim_set ho.sim hi.sim)⟩
def aDrop (a : AE') : AS' := fun E s C => a s C fun _ C1 => E.nx s C1
theorem as_expr (h : AE B X e te a) (hs : swapsWith e none pos.line X.env = pure false := by rfl) : AS B X (.Expr e pos) (tDrop te) (aDrop a) := ⟨ps_expr h.pe hs, fun D' E σ s F C R H hE hs hS h0 => by
  exact h.sim σ s F C R H _ _ hs hS h0 fun x v F1 C1 H1 e1 S1 r1 h1 => hE.nx s σ F1 C1 H1 e1 (hs.mono e1) S1 h1⟩
def aRet (a : AE') : AS' := fun E s C => a s C E.rt
theorem as_ret (h : AE B X e te a) : AS B X (.Return (some e) pos) (tRet te) (aRet a) := ⟨ps_ret h.pe, fun D' E σ s F C R H hE hs hS h0 => by
  exact h.sim σ s F C R H _ _ hs hS h0 fun x v F1 C1 H1 e1 S1 r1 h1 => hE.rt x v F1 C1 H1 e1 r1 S1 h1⟩
end
def aRetN : AS' := fun E _ C => E.rt .non C
def aIfS (c : AT') (a b : AS') : AS' := fun E s C => c s C fun t C1 => if t = true then a E s C1 else b E s C1
theorem as_if {c : Expr} {p q : List Stmt} {tc : TT} {t u : TS} {ac : AT'} {a b : AS'} (hc : AT B X c tc ac) (ha : ASs B X p t a) (hb : ASs B X q u b) : AS B X (.If c p q pos) (tIfS tc t u) (aIfS ac a b) := ⟨ps_if hc.pt ha.ps hb.ps, fun D' E σ s F C R H hE hs hS h0 => by
  refine hc.sim σ s F C R H _ _ hs hS h0 fun t F1 C1 H1 e1 S1 h1 => ?_
  cases t with
  | true => exact ha.sim D' E σ s F1 C1 R H1 (hE.mono e1) (hs.mono e1) S1 h1
  | false => exact hb.sim D' E σ s F1 C1 R H1 (hE.mono e1) (hs.mono e1) S1 h1⟩
def aFor (w : AI') (g : AG') (b : AS') : AS' := fun E s C => w s C fun items hold C1 => ∃ W : Nat → ASt → AH → Prop, W 0 s C1 ∧ (∀ i s' C', i ≤ items.length → W i s' C' → hold C') ∧
  (∀ i d s' C', items[i]? = some d → W i s' C' → g d s' C' fun s2 C2 => b { E with nx := W (i + 1), ct := W (i + 1), bk := E.nx } s2 C2) ∧ ∀ s' C', W items.length s' C' → E.nx s' C'
theorem sim_for {wi : TI} {g : TG} {tb : TS} {aw : AI'} {ag : AG'} {ab : AS'} (hi : SimI B K wi aw) (hg : SimG B K g ag) (hb : SimS B K tb ab) : SimS B K (tFor wi g tb) (aFor aw ag ab) := fun D' E σ s F C R H hE hs hS h => by
  refine hi σ s F C R H _ _ hs hS h fun items hold J F1 C1 H1 e1 S1 Wk h1 => ?_
  obtain ⟨W, h0, hh, hstep, hend⟩ := h1
  refine ⟨fun i m σ' H' => m = items.length - i ∧ i ≤ items.length ∧ ∃ s' F' C', Ex F1 F' ∧ Slo K F' s' σ' ∧ Sat B K F' C' R H' ∧ W i s' C', ⟨items.length, by simp, Nat.zero_le _, s, F1, C1, Ex.refl F1, hs.mono e1, S1, h0⟩, ?_⟩
  rintro i m σ' H' ⟨rfl, hi, s', F', C', e', hs', S', w⟩
  by_cases hlt : i < items.length
  · refine .inr ⟨Wk.go F' C' R H' i e' S' (hh i s' C' hi w) hlt, fun σ2 H2 => ∃ s2 F2 C2, Ex F1 F2 ∧ Slo K F2 s2 σ2 ∧ Sat B K F2 C2 R H2 ∧ W (i + 1) s2 C2, fun σ2 H2 z => ⟨items.length - (i + 1), by omega, rfl, hlt, z⟩, fun x H'' y => ?_⟩
    obtain ⟨d, F'', hd, e'', S'', r⟩ := Wk.yld F' C' R H' i x H'' e' S' (hh i s' C' hi w) hlt y
    refine hg x d σ' s' F'' C' R H'' _ _ (hs'.mono e'') S'' r (hstep i d s' C' hd w) fun s2 σ2 F2 C2 H2 e2 hs2 S2 h2 => ?_
    have eA : Ex F1 F2 := (e'.trans e'').trans e2
    refine hb _ { E with nx := W (i + 1), ct := W (i + 1), bk := E.nx } σ2 s2 F2 C2 R H2 ⟨fun s3 σ3 F3 C3 H3 e3 hs3 S3 z => ⟨s3, F3, C3, eA.trans e3, hs3, S3, z⟩, fun d v F3 C3 H3 e3 r3 S3 z => hE.rt d v F3 C3 H3 ((e1.trans eA).trans e3) r3 S3 z,
      fun s3 σ3 F3 C3 H3 e3 hs3 S3 z => hE.nx s3 σ3 F3 C3 H3 ((e1.trans eA).trans e3) hs3 S3 z, fun s3 σ3 F3 C3 H3 e3 hs3 S3 z => ⟨s3, F3, C3, eA.trans e3, hs3, S3, z⟩⟩ hs2 S2 h2
  · have e : i = items.length := by omega
    subst e
    exact .inl ⟨Wk.stop F' C' R H' e' S' (hh _ s' C' (Nat.le_refl _) w), hE.nx s' σ' F' C' H' (e1.trans e') hs' S' (hend s' C' w)⟩
theorem as_for {tg iter : Expr} {body : List Stmt} {wi : TI} {vs : List Nat} {g : TG} {tb : TS} {aw : AI'} {ag : AG'} {ab : AS'} (hi : AI B X tg iter wi aw) (hg : AG B X tg vs g ag) (hb : ASs B X body tb ab) (hp : PassesOwn (model X.prog X.w) X.A X.env X.xe := by exact PassesOwn.never) (hc : X.calm = true := by rfl)
    (hs : ∀ x, foldedSetIterable iter X.env x = pure x := by intro _; rfl) : AS B X (.For tg iter body [] pos) (tFor wi g tb) (aFor aw ag ab) := ⟨ps_for hp hc hi.pi hg.pg hb.ps hs, sim_for hi.sim hg.sim hb.sim⟩
def aYes : AT' := fun _ C P => P true C
theorem ats_nil : ATs B X [] tYes aYes := ⟨pts_nil, fun σ s F C R H Q P hs hS h k => k true F C H (Ex.refl F) hS h⟩
theorem ats_one {c : Expr} {t : TT} {a : AT'} (h : AT B X c t a) : ATs B X [c] t a := ⟨pts_one h.pt, h.sim⟩
/-- the list as it is made; fin: what becomes of it -/
def aLcW (w : AI') (g : AG') (t : AT') (e : AE') (vs : List Nat) (fin : List D → AH → Prop) : ASt → AH → Prop := fun s C => w s C fun items hold C1 => items.length ≤ sizeLine ∧ ∃ W : Nat → List D → AH → Prop, W 0 [] C1 ∧ (∀ i acc C', i ≤ items.length → W i acc C' → hold C') ∧
  (∀ i d acc C', items[i]? = some d → W i acc C' → g d (wipeA s vs) C' fun s2 C2 => t s2 C2 fun b C3 => if b = true then e s2 C3 fun y C4 => W (i + 1) (acc ++ [y]) C4 else W (i + 1) acc C3) ∧ ∀ acc C', W items.length acc C' → fin acc C'
def aLc (w : AI') (g : AG') (t : AT') (e : AE') (vs : List Nat) : AE' := fun s C P => aLcW w g t e vs (fun acc C' => P (.lst acc) C') s C
def aLcM (w : AI') (g : AG') (t : AT') (e : AE') (vs : List Nat) : AE' := fun s C P => aLcW w g t e vs (fun acc C' => ∀ p, C' p = none → P (.ce p) (put C' p (.lst acc))) s C
theorem lc_sim {wi : TI} {g : TG} {tt : TT} {te : TE} {vs : List Nat} {aw : AI'} {ag : AG'} {at' : AT'} {ae : AE'} {fin : List D → AH → Prop} (hi : SimI B K wi aw) (hg : SimG B K g ag) (hin : GIn vs g) (ht : SimT B K tt at') (he : SimE B K te ae)
    {σ : L2.St} {s : ASt} {F : Hp} {C : AH} {R H : Hp} {Q : VK} (hs : Slo K F s σ) (hS : Sat B K F C R H) (h : aLcW aw ag at' ae vs fin s C)
    (k : ∀ Dl acc accD F' C' H', Ex F F' → R Dl = none → Sat B K F' C' (upd R Dl (.lst acc)) H' → RepL K F' acc accD → fin accD C' → Q (.ref Dl) H') : tLc wi g tt te vs σ H Q := by
  refine hi σ s F C R H _ _ hs hS h fun items hold J F1 C1 H1 e1 S1 Wk h1 => ?_
  obtain ⟨hz, W, h0, hh, hstep, hend⟩ := h1
  intro Dl hD
  have hR := S1.freeR hD
  refine ⟨fun i m H' => m = items.length - i ∧ i ≤ items.length ∧ ∃ F' C' acc accD, Ex F1 F' ∧ Sat B K F' C' (upd R Dl (.lst acc)) H' ∧ RepL K F' acc accD ∧ accD.length ≤ i ∧ W i accD C',
    ⟨items.length, by simp, Nat.zero_le _, F1, C1, [], [], Ex.refl F1, S1.setR (S1.freeF hD) (S1.freeC hD) (S1.freeB hR) _, .nil, Nat.le_refl _, h0⟩, ?_⟩
  rintro i m H' ⟨rfl, hi, F', C', acc, accD, e', S', ra, hl, w⟩
  by_cases hlt : i < items.length
  · refine .inr ⟨Wk.go F' C' _ H' i e' S' (hh i accD C' hi w) hlt, fun H2 => ∃ F2 C2 acc accD, Ex F1 F2 ∧ Sat B K F2 C2 (upd R Dl (.lst acc)) H2 ∧ RepL K F2 acc accD ∧ accD.length ≤ i + 1 ∧ W (i + 1) accD C2, fun H2 z => ⟨items.length - (i + 1), by omega, rfl, hlt, z⟩, fun x H'' y => ?_⟩
    obtain ⟨d, F'', hd, e'', S'', r⟩ := Wk.yld F' C' _ H' i x H'' e' S' (hh i accD C' hi w) hlt y
    refine hin x _ H'' (fun σ2 H2 => tt σ2 H2 fun b H3 => if b = true then te σ2 H3 fun y H4 => ∃ acc, H4 Dl = some (.lst acc) ∧ acc.length < sizeLine ∧ ∃ F2 C2 acc2 accD, Ex F1 F2 ∧ Sat B K F2 C2 (upd R Dl (.lst acc2)) (upd H4 Dl (.lst (acc ++ [y]))) ∧ RepL K F2 acc2 accD ∧ accD.length ≤ i + 1 ∧ W (i + 1) accD C2
      else ∃ F2 C2 acc accD, Ex F1 F2 ∧ Sat B K F2 C2 (upd R Dl (.lst acc)) H3 ∧ RepL K F2 acc accD ∧ accD.length ≤ i + 1 ∧ W (i + 1) accD C2) _ ?_ fun σ2 H2 w2 q => ⟨w2.trans (wipe_wipe σ vs), q⟩
    refine hg x d _ (wipeA s vs) F'' C' _ H'' _ _ ((hs.mono ((e1.trans e').trans e'')).wipe vs) S'' r (hstep i d accD C' hd w) fun s2 σ2 F2 C2 H2 e2 hs2 S2 h2 => ?_
    refine ht σ2 s2 F2 C2 _ H2 _ _ hs2 S2 h2 fun b F3 C3 H3 e3 S3 h3 => ?_
    have eA : Ex F' F3 := (e''.trans e2).trans e3
    cases b with
    | true =>
      refine he σ2 s2 F3 C3 _ H3 _ _ (hs2.mono e3) S3 h3 fun y v F4 C4 H4 e4 S4 r4 h4 => ?_
      obtain ⟨f4, c4, d4⟩ := S4.priv Dl _ upd_same
      refine ⟨acc, d4, ?_, F4, C4, acc ++ [v], accD ++ [y], (e'.trans eA).trans e4, ?_, (ra.mono (eA.trans e4)).append (.cons r4 .nil), by rw [List.length_append]; exact Nat.succ_le_succ hl, h4⟩
      · rw [ra.length]; omega
      · have := S4.setR f4 c4 (S1.freeB hR) (.lst (acc ++ [v]))
        rw [upd_upd] at this
        exact this
    | false => exact ⟨F3, C3, acc, accD, e'.trans eA, S3, ra.mono eA, Nat.le_succ_of_le hl, h3⟩
  · have e : i = items.length := by omega
    subst e
    exact .inl ⟨Wk.stop F' C' _ H' e' S' (hh _ accD C' (Nat.le_refl _) w), k Dl acc accD F' C' H' (e1.trans e') hR S' ra (hend accD C' w)⟩
theorem sim_lc {wi : TI} {g : TG} {tt : TT} {te : TE} {vs : List Nat} {aw : AI'} {ag : AG'} {at' : AT'} {ae : AE'} (hi : SimI B K wi aw) (hg : SimG B K g ag) (hin : GIn vs g) (ht : SimT B K tt at') (he : SimE B K te ae) : SimE B K (tLc wi g tt te vs) (aLc aw ag at' ae vs) := fun σ s F C R H Q P hs hS h k => by
  refine lc_sim hi hg hin ht he hs hS h fun Dl acc accD F' C' H' e1 hR S r h1 => ?_
  have eN := Ex.new (o := .lst acc) (S.priv Dl _ upd_same).1
  exact k _ _ _ C' H' (e1.trans eN) (S.outF hR (hS.freeB hR)) (.lst upd_same (r.mono eN)) h1
theorem sim_lcM {wi : TI} {g : TG} {tt : TT} {te : TE} {vs : List Nat} {aw : AI'} {ag : AG'} {at' : AT'} {ae : AE'} (hi : SimI B K wi aw) (hg : SimG B K g ag) (hin : GIn vs g) (ht : SimT B K tt at') (he : SimE B K te ae) : SimE B K (tLc wi g tt te vs) (aLcM aw ag at' ae vs) := fun σ s F C R H Q P hs hS h k => by
  refine lc_sim hi hg hin ht he hs hS h fun Dl acc accD F' C' H' e1 hR S r h1 => ?_
  exact k _ _ F' _ H' e1 (S.outC hR (hS.freeB hR) (.lst r)) (.ce Dl) (h1 Dl (S.priv Dl _ upd_same).2.1)
section
variable {elt tg iter : Expr} {ifs : List Expr} {scope : Scope} {own : List (Str × Nat)} {wi : TI} {g : TG} {tt : TT} {te : TE} {aw : AI'} {ag : AG'} {at' : AT'} {ae : AE'}
theorem ae_lc (own : List (Str × Nat)) (hN : X.N.Nodup) (hi : AI B X tg iter wi aw) (ok : BlkOk X.N X.env.scope scope own)
    (hg : ∀ (s : Shared) (H : Hp) (C : Addr) (cl : List (Str × Addr)) (fp : List Addr), AG B (X.blk s H scope (compEnvC scope cl C X.env) fp) tg (own.map (·.2)) g ag) (ht : ∀ (s : Shared) (H : Hp) (C : Addr) (cl : List (Str × Addr)) (fp : List Addr), ATs B (X.blk s H scope (compEnvC scope cl C X.env) fp) ifs tt at')
    (he : ∀ (s : Shared) (H : Hp) (C : Addr) (cl : List (Str × Addr)) (fp : List Addr), AE B (X.blk s H scope (compEnvC scope cl C X.env) fp) elt te ae) (hc : X.calm = true := by rfl) (hs : ∀ x, foldedSetIterable iter X.env x = pure x := by intro _; rfl) :
    AE B X (.ListComp elt [⟨tg, iter, ifs, 0⟩] scope pos) (tLc wi g tt te (own.map (·.2))) (aLc aw ag at' ae (own.map (·.2))) :=
  ⟨pe_lc hc hN hi.pi ok (fun s H C cl fp => (hg s H C cl fp).pg) (fun s H C cl fp => (ht s H C cl fp).pts) (fun s H C cl fp => (he s H C cl fp).pe) hs,
    let G := hg X.s_0 (fun _ => none) 0 [] []
    sim_lc hi.sim G.sim G.inn (ht X.s_0 (fun _ => none) 0 [] []).sim (he X.s_0 (fun _ => none) 0 [] []).sim⟩
theorem ae_lcM (own : List (Str × Nat)) (hN : X.N.Nodup) (hi : AI B X tg iter wi aw) (ok : BlkOk X.N X.env.scope scope own)
    (hg : ∀ (s : Shared) (H : Hp) (C : Addr) (cl : List (Str × Addr)) (fp : List Addr), AG B (X.blk s H scope (compEnvC scope cl C X.env) fp) tg (own.map (·.2)) g ag) (ht : ∀ (s : Shared) (H : Hp) (C : Addr) (cl : List (Str × Addr)) (fp : List Addr), ATs B (X.blk s H scope (compEnvC scope cl C X.env) fp) ifs tt at')
    (he : ∀ (s : Shared) (H : Hp) (C : Addr) (cl : List (Str × Addr)) (fp : List Addr), AE B (X.blk s H scope (compEnvC scope cl C X.env) fp) elt te ae) (hc : X.calm = true := by rfl) (hs : ∀ x, foldedSetIterable iter X.env x = pure x := by intro _; rfl) :
    AE B X (.ListComp elt [⟨tg, iter, ifs, 0⟩] scope pos) (tLc wi g tt te (own.map (·.2))) (aLcM aw ag at' ae (own.map (·.2))) :=
  ⟨pe_lc hc hN hi.pi ok (fun s H C cl fp => (hg s H C cl fp).pg) (fun s H C cl fp => (ht s H C cl fp).pts) (fun s H C cl fp => (he s H C cl fp).pe) hs,
    let G := hg X.s_0 (fun _ => none) 0 [] []
    sim_lcM hi.sim G.sim G.inn (ht X.s_0 (fun _ => none) 0 [] []).sim (he X.s_0 (fun _ => none) 0 [] []).sim⟩
theorem as_setLcM (i : Nat) (own : List (Str × Nat)) {y : Str} {py spos : Pos} (hN : X.N.Nodup) (hi : AI B X tg iter wi aw) (hsw : swapsWith (.ListComp elt [⟨tg, iter, ifs, 0⟩] scope pos) (some (.Name y py)) spos.line X.env = pure true) (ok : BlkOk X.N X.env.scope scope own)
    (hg : ∀ (s : Shared) (H : Hp) (C : Addr) (cl : List (Str × Addr)) (fp : List Addr), AG B (X.blk s H scope (compEnvC scope cl C X.env) fp) tg (own.map (·.2)) g ag) (ht : ∀ (s : Shared) (H : Hp) (C : Addr) (cl : List (Str × Addr)) (fp : List Addr), ATs B (X.blk s H scope (compEnvC scope cl C X.env) fp) ifs tt at')
    (he : ∀ (s : Shared) (H : Hp) (C : Addr) (cl : List (Str × Addr)) (fp : List Addr), AE B (X.blk s H scope (compEnvC scope cl C X.env) fp) elt te ae) (hy : X.N[i]? = some y := by rfl) (hyl : X.env.scope.names.lookup y = some .local := by rfl) (hc : X.calm = true := by rfl) (hs : ∀ x, foldedSetIterable iter X.env x = pure x := by intro _; rfl) :
    AS B X (.Assign [.Name y py] (.ListComp elt [⟨tg, iter, ifs, 0⟩] scope pos) spos) (tAsg (tLc wi g tt te (own.map (·.2))) (gName i)) (aAsg (aLcM aw ag at' ae (own.map (·.2))) (aGName i)) :=
  ⟨ps_setLc hc hN hy hyl hsw hi.pi ok (fun s H C cl fp => (hg s H C cl fp).pg) (fun s H C cl fp => (ht s H C cl fp).pts) (fun s H C cl fp => (he s H C cl fp).pe) hs,
    let G := hg X.s_0 (fun _ => none) 0 [] []
    sim_asg (sim_lcM hi.sim G.sim G.inn (ht X.s_0 (fun _ => none) 0 [] []).sim (he X.s_0 (fun _ => none) 0 [] []).sim) (sim_name i)⟩
end
end
end AL
namespace AL
open PySem PySem.Spec L2
variable {B : Bs}
theorem law_sp {asp : ASp} {n : Nat} (h : ∀ ns : List Int, ns.length ≤ n → asp [.scr ns] (fun _ => none) (fun d _ => d = .bl true)) (w : Gd) (K : PySem.W.Frag) (H : Hp) (a : Addr) (ns : List Int) (hn : ns.length ≤ n) (hS : SqL K H a (ns.map V.int)) :
    spOf w K 1 asp [.ref a] H (fun v _ => v = .bl true) fun _ _ _ => False := by
  refine ⟨rfl, H, fun _ => none, fun _ => none, [.scr ns], fun d _ => d = .bl true, ⟨fun _ _ z => (by cases z), fun _ _ z => (by cases z), Ex.refl H, fun _ _ z => (by cases z), fun _ _ z => (by cases z)⟩, .cons (.scr hS) .nil, h ns hn, fun d v F' C' H' _ _ r e => ?_⟩
  subst e
  cases r
  rfl
end AL
namespace AL
open PySem L2
theorem atI_nat' {α : Type} {xs : List α} {i : Nat} {x : α} (h : xs[i]? = some x) : atI xs (i : Int) = some x := by
  have hi := (List.getElem?_eq_some_iff.mp h).1
  unfold atI ixN
  rw [if_pos (by omega), if_pos (by omega)]
  simpa using h
section
variable {a b : AS'} {nx : ASt → AH → Prop} {rt : D → AH → Prop} {bk ct : ASt → AH → Prop} {s : ASt} {C : AH} {e e1 e2 e3 : AE'} {t t1 t2 : AT'} {g : AG'} {P : D → AH → Prop} {PB : Bool → AH → Prop} {PA : List D → AH → Prop} {w : AI'} {aa : AA'}
theorem g_body' {n : Nat} {ds : List D} {s : ASt} (h0 : ds.map some ++ List.replicate (n - ds.length) none = s) (h : a ⟨fun _ C' => P .non C', P, fun _ _ => False, fun _ _ => False⟩ s C) : aBody n a ds C P := by
  subst h0
  exact h
theorem g_gname' {i : Nat} {d : D} {Q : ASt → AH → Prop} {s' : ASt} (h0 : s.set i (some d) = s') (h : Q s' C) : aGName i d s C Q := by
  subst h0
  exact h
theorem g_seq (h : a ⟨b ⟨nx, rt, bk, ct⟩, rt, bk, ct⟩ s C) : aSeq a b ⟨nx, rt, bk, ct⟩ s C := h
theorem g_next (h : nx s C) : aNext ⟨nx, rt, bk, ct⟩ s C := h
theorem g_asg (h : e s C fun x C1 => g x s C1 nx) : aAsg e g ⟨nx, rt, bk, ct⟩ s C := h
theorem g_drop (h : e s C fun _ C1 => nx s C1) : aDrop e ⟨nx, rt, bk, ct⟩ s C := h
theorem g_ret (h : e s C rt) : aRet e ⟨nx, rt, bk, ct⟩ s C := h
theorem g_retN (h : rt .non C) : aRetN ⟨nx, rt, bk, ct⟩ s C := h
theorem g_ifS (h : t s C fun k C1 => if k = true then a ⟨nx, rt, bk, ct⟩ s C1 else b ⟨nx, rt, bk, ct⟩ s C1) : aIfS t a b ⟨nx, rt, bk, ct⟩ s C := h
theorem g_ifF (ht : ∀ K : Bool → AH → Prop, K false C → t s C K) (h : b ⟨nx, rt, bk, ct⟩ s C) : aIfS t a b ⟨nx, rt, bk, ct⟩ s C := ht _ h
theorem g_ifT (ht : ∀ K : Bool → AH → Prop, K true C → t s C K) (h : a ⟨nx, rt, bk, ct⟩ s C) : aIfS t a b ⟨nx, rt, bk, ct⟩ s C := ht _ h
/-- the cells may have turned -/
theorem g_ifFC {Z : AH → Prop} (ht : ∀ K : Bool → AH → Prop, (∀ C', Z C' → K false C') → t s C K) (h : ∀ C', Z C' → b ⟨nx, rt, bk, ct⟩ s C') : aIfS t a b ⟨nx, rt, bk, ct⟩ s C := ht _ h
theorem g_ifJ (M : ASt → AH → Prop) (h : ∀ N : ASt → AH → Prop, (∀ s' C', M s' C' → N s' C') → aIfS t a b ⟨N, rt, bk, ct⟩ s C) (k : ∀ s' C', M s' C' → nx s' C') : aIfS t a b ⟨nx, rt, bk, ct⟩ s C := h nx k
theorem g_gtup {n : Nat} {ds : List D} {gs : AGs'} {Q : ASt → AH → Prop} (hn : ds.length = n) (h : gs ds s C Q) : aGTup n gs (.tup ds) s C Q := ⟨hn, h⟩
theorem g_gcons {d : D} {ds : List D} {gs : AGs'} {Q : ASt → AH → Prop} (h : g d s C fun s' C' => gs ds s' C' Q) : aGCons g gs (d :: ds) s C Q := h
theorem g_gnil {Q : ASt → AH → Prop} (h : Q s C) : aGNil [] s C Q := h
def kSet (p : Addr) (d : D) (s : ASt) (Q : ASt → AH → Prop) : D → AH → Prop := fun y C2 => match y with | .int j => (match C2 p with | some (.lst us) => (match ixN us.length j with | some k => Q s (put C2 p (.lst (us.set k d))) | none => False) | _ => False) | _ => False
/-- xs[i] = d, xs a name's cell -/
theorem g_gsetV {i : Nat} {d : D} {p : Addr} {Q : ASt → AH → Prop} (hi : s[i]? = some (some (.ce p))) (h : e2 s C (kSet p d s Q)) : aGSet (aVar i) e2 d s C Q := by
  unfold aGSet aVar
  rw [hi]
  refine (congrArg (e2 s C) ?_).mpr h
  funext y C2
  cases y <;> rfl
theorem g_kSet {j : Int} {p : Addr} {us : List D} {k : Nat} {d : D} {Q : ASt → AH → Prop} (h1 : C p = some (.lst us)) (h2 : ixN us.length j = some k) (h : Q s (put C p (.lst (us.set k d)))) : kSet p d s Q (.int j) C := by
  unfold kSet
  simp only [h1, h2]
  exact h
theorem g_frzL {i : Nat} {p : Addr} {ds : List D} {E : AEnds} (h0 : s[i]? = some (some (.ce p))) (h1 : C p = some (.lst ds)) (h : a E (s.set i (some (.lst ds))) (del C p)) : aFrz i a E s C := by
  unfold aFrz
  rw [h0]
  show (match C p with | some (.lst ds) => a E (s.set i (some (.lst ds))) (del C p) | some (.dk es) => a E (s.set i (some (.dk es))) (del C p) | _ => False)
  rw [h1]
  exact h
theorem g_var {i : Nat} {d : D} (hi : s[i]? = some (some d)) (h : P d C) : aVar i s C P := by
  unfold aVar
  rw [hi]
  exact h
theorem g_yes (h : PB true C) : aYes s C PB := h
theorem g_c {d : D} (h : P d C) : aC d s C P := h
theorem g_op {r : D → D → AH → (D → AH → Prop) → Prop} (h : e1 s C fun x C1 => e2 s C1 fun y C2 => r x y C2 P) : aOp r e1 e2 s C P := h
theorem g_un {r : D → AH → (D → AH → Prop) → Prop} (h : e1 s C fun x C1 => r x C1 P) : aUn r e1 s C P := h
theorem g_sub {i j : Int} (h : P (.int (i - j)) C) : aSub (.int i) (.int j) C P := h
theorem g_lt {i j : Int} (h : P (.bl (decide (i < j))) C) : aLt (.int i) (.int j) C P := h
theorem g_le {i j : Int} (h : P (.bl (decide (i ≤ j))) C) : aLe (.int i) (.int j) C P := h
theorem g_gt {i j : Int} (h : P (.bl (decide (j < i))) C) : aGt (.int i) (.int j) C P := h
theorem g_ge {i j : Int} (h : P (.bl (decide (j ≤ i))) C) : aGe (.int i) (.int j) C P := h
theorem g_mul {i j : Int} (h1 : CMul i j) (h : P (.int (i * j)) C) : aMul (.int i) (.int j) C P := ⟨h1, h⟩
theorem g_div {i j : Int} (h1 : CDiv i j) (h : P (.int (i / j)) C) : aDiv (.int i) (.int j) C P := ⟨h1, h⟩
theorem g_mod {i j : Int} (h1 : 0 < j) (h : P (.int (i % j)) C) : aMod (.int i) (.int j) C P := ⟨h1, h⟩
theorem g_pow {i j : Int} (h1 : CPow i j) (h : P (.int (i ^ j.toNat)) C) : aPow (.int i) (.int j) C P := ⟨h1, h⟩
theorem g_addI {i j : Int} (h : P (.int (i + j)) C) : aAdd (.int i) (.int j) C P := h
theorem g_addT {i j : List D} (h1 : i.length + j.length ≤ sizeLine) (h : P (.tup (i ++ j)) C) : aAdd (.tup i) (.tup j) C P := ⟨h1, h⟩
theorem g_addL {i j : List D} (h1 : i.length + j.length ≤ sizeLine) (h : P (.lst (i ++ j)) C) : aAdd (.lst i) (.lst j) C P := ⟨i, j, rfl, rfl, h1, h⟩
theorem g_eqII {i j : Int} (h : P (.bl (decide (i = j))) C) : aEq (.int i) (.int j) C P := h
theorem g_neII {i j : Int} (h : P (.bl (!decide (i = j))) C) : aNe (.int i) (.int j) C P := h
theorem g_eqBB {i j : Bool} (h : P (.bl (decide (i = j))) C) : aEq (.bl i) (.bl j) C P := h
theorem g_neBB {i j : Bool} (h : P (.bl (!decide (i = j))) C) : aNe (.bl i) (.bl j) C P := h
theorem g_eqTT {i j : Str} (h : P (.bl (decide (i = j))) C) : aEq (.str i) (.str j) C P := h
theorem g_neTT {i j : Str} (h : P (.bl (!decide (i = j))) C) : aNe (.str i) (.str j) C P := h
theorem g_is {x : D} (h : P (.bl (isNon x)) C) : aIsN x .non C P := ⟨rfl, h⟩
theorem g_isnot {x : D} (h : P (.bl (!isNon x)) C) : aNotN x .non C P := ⟨rfl, h⟩
def kTru (PB : Bool → AH → Prop) : D → AH → Prop := fun x C1 => match truth C1 x with | some b => PB b C1 | none => False
theorem g_tru (h : e s C (kTru PB)) : aTru e s C PB := h
theorem g_kTruB {k : Bool} (h : PB k C) : kTru PB (.bl k) C := h
def kB (PB : Bool → AH → Prop) : D → AH → Prop := fun x C1 => match x with | .bl b => PB b C1 | _ => False
theorem g_B (h : e s C (kB PB)) : aB e s C PB := h
theorem g_kB {k : Bool} (h : PB k C) : kB PB (.bl k) C := h
theorem g_and (h : t1 s C fun c C1 => if c = true then t2 s C1 PB else PB false C1) : aAnd t1 t2 s C PB := h
theorem g_or (h : t1 s C fun c C1 => if c = true then PB true C1 else t2 s C1 PB) : aOr t1 t2 s C PB := h
theorem g_not (h : t1 s C fun c C1 => PB (!c) C1) : aNot t1 s C PB := h
def kAndV (e2 : AE') (s : ASt) (P : D → AH → Prop) : D → AH → Prop := fun x C1 => match truth C1 x with | some true => e2 s C1 P | some false => P x C1 | none => False
def kOrV (e2 : AE') (s : ASt) (P : D → AH → Prop) : D → AH → Prop := fun x C1 => match truth C1 x with | some true => P x C1 | some false => e2 s C1 P | none => False
def kNotV (P : D → AH → Prop) : D → AH → Prop := fun x C1 => match truth C1 x with | some b => P (.bl (!b)) C1 | none => False
theorem g_andV (h : e1 s C (kAndV e2 s P)) : aAndV e1 e2 s C P := h
theorem g_orV (h : e1 s C (kOrV e2 s P)) : aOrV e1 e2 s C P := h
theorem g_notV (h : e1 s C (kNotV P)) : aNotV e1 s C P := h
theorem g_kAnd {k : Bool} (h1 : k = true → e2 s C P) (h2 : k = false → P (.bl false) C) : kAndV e2 s P (.bl k) C := by
  cases k
  · exact h2 rfl
  · exact h1 rfl
theorem g_kOr {k : Bool} (h1 : k = true → P (.bl true) C) (h2 : k = false → e2 s C P) : kOrV e2 s P (.bl k) C := by
  cases k
  · exact h2 rfl
  · exact h1 rfl
theorem g_kNot {k : Bool} (h : P (.bl (!k)) C) : kNotV P (.bl k) C := h
theorem g_if (h : t s C fun c C1 => if c = true then e1 s C1 P else e2 s C1 P) : aIf t e1 e2 s C P := h
theorem g_ite {A B : Prop} {k : Bool} (h1 : k = true → A) (h2 : k = false → B) : if k = true then A else B := by
  cases k
  · exact h2 rfl
  · exact h1 rfl
theorem g_iteD {A B : Prop} {p : Prop} [Decidable p] (h1 : p → A) (h2 : ¬ p → B) : if decide p = true then A else B := by
  by_cases h : p
  · rw [decide_eq_true h]; exact h1 h
  · rw [decide_eq_false h]; exact h2 h
theorem g_iteT {A B : Prop} (h : A) : if true = true then A else B := h
theorem g_iteF {A B : Prop} (h : B) : if false = true then A else B := h
theorem g_iteNT {A B : Prop} (h : B) : if (!true) = true then A else B := h
theorem g_iteNF {A B : Prop} (h : A) : if (!false) = true then A else B := h
theorem g_nil (h : PA [] C) : aNil s C PA := h
theorem g_cons (h : e s C fun x C1 => aa s C1 fun xs C2 => PA (x :: xs) C2) : aCons e aa s C PA := h
theorem g_tup (h : aa s C fun ds C1 => ds.length ≤ sizeLine ∧ P (.tup ds) C1) : aTup aa s C P := h
theorem g_lst (h : aa s C fun ds C1 => ds.length ≤ sizeLine ∧ P (.lst ds) C1) : aLst aa s C P := h
theorem g_lstM (h : aa s C fun ds C1 => ds.length ≤ sizeLine ∧ ∀ p, C1 p = none → P (.ce p) (put C1 p (.lst ds))) : aLstM aa s C P := h
theorem g_call {asp : ASp} (h : aa s C fun ds C1 => asp ds C1 P) : aCall asp aa s C P := h
def kIsi (T : String) (P : D → AH → Prop) : D → AH → Prop := fun x C1 => match kindOf C1 x with | some t => P (.bl (isT T t)) C1 | none => False
theorem g_isi {T : String} (h : e s C (kIsi T P)) : aIsi T e s C P := h
theorem g_kIsiI {T : String} {i : Int} (h : P (.bl (isT T "int")) C) : kIsi T P (.int i) C := h
theorem g_kIsiB {T : String} {i : Bool} (h : P (.bl (isT T "bool")) C) : kIsi T P (.bl i) C := h
theorem g_kIsiN {T : String} (h : P (.bl (isT T "NoneType")) C) : kIsi T P .non C := h
theorem g_kIsiS {T : String} {i : Str} (h : P (.bl (isT T "str")) C) : kIsi T P (.str i) C := h
theorem g_kIsiL {T : String} {i : List D} (h : P (.bl (isT T "list")) C) : kIsi T P (.lst i) C := h
theorem g_kIsiT {T : String} {i : List D} (h : P (.bl (isT T "tuple")) C) : kIsi T P (.tup i) C := h
theorem g_kIsiK {T : String} {i : List (Key × D)} (h : P (.bl (isT T "dict")) C) : kIsi T P (.dk i) C := h
theorem g_kIsi {T t : String} {x : D} (h1 : kindOf C x = some t) (h : P (.bl (isT T t)) C) : kIsi T P x C := by
  unfold kIsi
  rw [h1]
  exact h
theorem g_meth {T : String} {m : D → ASp} (h : e s C fun x C1 => isTy T C1 x = true ∧ aa s C1 fun ds C2 => m x ds C2 P) : aMeth T m e aa s C P := h
theorem g_meth0 {T : String} {m : D → ASp} (h : e s C fun x C1 => isTy T C1 x = true ∧ m x [] C1 P) : aMeth0 T m e s C P := h
theorem g_append {p : Addr} {us : List D} {d : D} (h1 : C p = some (.lst us)) (h2 : us.length < sizeLine) (h : P .non (put C p (.lst (us ++ [d])))) : aAppend (.ce p) [d] C P := by
  unfold aAppend
  show (match C p with | some (.lst us) => us.length < sizeLine ∧ P .non (put C p (.lst (us ++ [d]))) | _ => False)
  rw [h1]
  exact ⟨h2, h⟩
theorem isTy_ce {T : String} {p : Addr} {us : List D} (h1 : C p = some (.lst us)) (h2 : T = "list") : isTy T C (.ce p) = true := by
  subst h2
  simp [isTy, h1]
theorem g_ixL {us : List D} {i : Int} {d : D} (h1 : atI us i = some d) (h : P d C) : aIx (.lst us) (.int i) C P := by
  show (match atI us i with | some d => P d C | none => False)
  rw [h1]; exact h
theorem g_ixT {us : List D} {i : Int} {d : D} (h1 : atI us i = some d) (h : P d C) : aIx (.tup us) (.int i) C P := by
  show (match atI us i with | some d => P d C | none => False)
  rw [h1]; exact h
theorem g_ixL0 {d : D} {us : List D} (h : P d C) : aIx (.lst (d :: us)) (.int 0) C P := g_ixL (atI_nat' (i := 0) rfl) h
theorem g_ixL1 {a d : D} {us : List D} (h : P d C) : aIx (.lst (a :: d :: us)) (.int 1) C P := g_ixL (atI_nat' (i := 1) rfl) h
theorem g_ixL2 {a b d : D} {us : List D} (h : P d C) : aIx (.lst (a :: b :: d :: us)) (.int 2) C P := g_ixL (atI_nat' (i := 2) rfl) h
theorem g_ixT0 {d : D} {us : List D} (h : P d C) : aIx (.tup (d :: us)) (.int 0) C P := g_ixT (atI_nat' (i := 0) rfl) h
theorem g_ixT1 {a d : D} {us : List D} (h : P d C) : aIx (.tup (a :: d :: us)) (.int 1) C P := g_ixT (atI_nat' (i := 1) rfl) h
theorem g_ixT2 {a b d : D} {us : List D} (h : P d C) : aIx (.tup (a :: b :: d :: us)) (.int 2) C P := g_ixT (atI_nat' (i := 2) rfl) h
theorem g_ixT3 {a b c d : D} {us : List D} (h : P d C) : aIx (.tup (a :: b :: c :: d :: us)) (.int 3) C P := g_ixT (atI_nat' (i := 3) rfl) h
theorem g_ixR {ns : List Int} {i : Int} {d : D} (h1 : atI (ns.map D.int) i = some d) (h : P d C) : aIx (.scr ns) (.int i) C P := by
  show (match atI (ns.map D.int) i with | some d => P d C | none => False)
  rw [h1]; exact h
theorem g_ixC {p : Addr} {us : List D} {i : Int} (h0 : C p = some (.lst us)) (h : aIx (.lst us) (.int i) C P) : aIx (.ce p) (.int i) C P := by
  show (match (match C p with | some (.lst us) => some us | _ => none) with | some ds => (match atI ds i with | some d => P d C | none => False) | none => False)
  rw [h0]
  exact h
theorem g_lenL {us : List D} (h : P (.int us.length) C) : aLen [.lst us] C P := h
theorem g_lenT {us : List D} (h : P (.int us.length) C) : aLen [.tup us] C P := h
theorem g_lenR {ns : List Int} (h : P (.int ns.length) C) : aLen [.scr ns] C P := by
  show P (.int (ns.map D.int).length) C
  rw [List.length_map]; exact h
theorem g_lenC {p : Addr} {us : List D} (h0 : C p = some (.lst us)) (h : P (.int us.length) C) : aLen [.ce p] C P := by
  show (match C p with | some (.lst us) => P (.int us.length) C | some (.dk us) => P (.int us.length) C | _ => False)
  rw [h0]; exact h
theorem g_abs {i : Int} (h : P (.int (if i < 0 then -i else i)) C) : aAbs [.int i] C P := h
theorem g_max2 {i j : Int} (h : P (.int (if j > i then j else i)) C) : aMax2 [.int i, .int j] C P := h
theorem g_min2 {i j : Int} (h : P (.int (if j < i then j else i)) C) : aMin2 [.int i, .int j] C P := h
theorem g_intI {i : Int} (h : P (.int i) C) : aInt [.int i] C P := h
theorem g_intB {k : Bool} (h : P (.int (if k then 1 else 0)) C) : aInt [.bl k] C P := h
theorem g_listL {us : List D} (h : P (.lst us) C) : aListOf [.lst us] C P := h
theorem g_listT {us : List D} (h : P (.lst us) C) : aListOf [.tup us] C P := h
theorem g_listC {p : Addr} {us : List D} (h0 : C p = some (.lst us)) (h : P (.lst us) C) : aListOf [.ce p] C P := by
  show (match (match C p with | some (.lst us) => some us | _ => none) with | some us => P (.lst us) C | none => False)
  rw [h0]; exact h
theorem g_tupleL {us : List D} (h : P (.tup us) C) : aTupleOf [.lst us] C P := h
theorem g_tupleT {us : List D} (h : P (.tup us) C) : aTupleOf [.tup us] C P := h
theorem g_rev {us : List D} (h : P (.lst us.reverse) C) : aRev (.lst us) C P := h
variable {PI : List D → (AH → Prop) → AH → Prop}
def kIL (PI : List D → (AH → Prop) → AH → Prop) : D → AH → Prop := fun x C1 => match asLr C1 x with | some ds => PI ds (fun C' => asLr C' x = some ds) C1 | none => False
theorem g_il (h : e s C (kIL PI)) : aIL e s C PI := h
theorem g_kIL {us : List D} (h : PI us (fun _ => True) C) (e : ∀ C' : AH, asLr C' (.lst us) = some us) (m : (fun _ : AH => True) = fun C' : AH => asLr C' (.lst us) = some us) : kIL PI (.lst us) C := by
  show PI us (fun C' => asLr C' (.lst us) = some us) C
  rw [← m]
  exact h
theorem g_kILl {us : List D} (h : PI us (fun _ => True) C) : kIL PI (.lst us) C := g_kIL h (fun _ => rfl) (by funext C'; simp [asLr, asL])
theorem g_kILr {ns : List Int} (h : PI (ns.map D.int) (fun _ => True) C) : kIL PI (.scr ns) C := by
  show PI (ns.map D.int) (fun C' => asLr C' (.scr ns) = some (ns.map D.int)) C
  have m : (fun _ : AH => True) = fun C' : AH => asLr C' (.scr ns) = some (ns.map D.int) := by funext C'; simp [asLr]
  rw [← m]
  exact h
theorem g_kILc {p : Addr} {us : List D} (h0 : C p = some (.lst us)) (h : PI us (fun C' => C' p = some (.lst us)) C) (m : ∀ h1 h2 : AH → Prop, (∀ C, h1 C → h2 C) → PI us h1 C → PI us h2 C) : kIL PI (.ce p) C := by
  have e : ∀ C' : AH, C' p = some (.lst us) → asLr C' (.ce p) = some us := fun C' h => by simp [asLr, asL, h]
  show (match asLr C (.ce p) with | some ds => PI ds (fun C' => asLr C' (.ce p) = some ds) C | none => False)
  rw [e C h0]
  exact m _ _ e h
def kIT (PI : List D → (AH → Prop) → AH → Prop) : D → AH → Prop := fun x C1 => match asT x with | some ds => PI ds (fun _ => True) C1 | none => False
theorem g_it (h : e s C (kIT PI)) : aIT e s C PI := h
theorem g_kIT {us : List D} (h : PI us (fun _ => True) C) : kIT PI (.tup us) C := h
def kIS (PI : List D → (AH → Prop) → AH → Prop) : D → AH → Prop := fun x C1 => match x with | .str z => PI (signs z) (fun _ => True) C1 | _ => False
theorem g_is' (h : e s C (kIS PI)) : aIS e s C PI := h
theorem g_kIS {z : Str} (h : PI (signs z) (fun _ => True) C) : kIS PI (.str z) C := h
def kIR1 (PI : List D → (AH → Prop) → AH → Prop) : List D → AH → Prop := fun ds C1 => match ds with | [.int j] => -(2 ^ 62) ≤ j ∧ j < 2 ^ 62 ∧ PI (rangeD 0 j.toNat) (fun _ => True) C1 | _ => False
theorem g_ir1 (h : aa s C (kIR1 PI)) : aIR1 aa s C PI := h
theorem g_kIR1 {j : Int} (h1 : -(2 ^ 62) ≤ j) (h2 : j < 2 ^ 62) (h : PI (rangeD 0 j.toNat) (fun _ => True) C) : kIR1 PI [.int j] C := ⟨h1, h2, h⟩
def kIR2 (PI : List D → (AH → Prop) → AH → Prop) : List D → AH → Prop := fun ds C1 => match ds with | [.int i, .int j] => (-(2 ^ 62) ≤ i ∧ i < 2 ^ 62 ∧ -(2 ^ 62) ≤ j ∧ j < 2 ^ 62) ∧ PI (rangeD i (j - i).toNat) (fun _ => True) C1 | _ => False
theorem g_ir2 (h : aa s C (kIR2 PI)) : aIR2 aa s C PI := h
theorem g_kIR2 {i j : Int} (h1 : -(2 ^ 62) ≤ i ∧ i < 2 ^ 62 ∧ -(2 ^ 62) ≤ j ∧ j < 2 ^ 62) (h : PI (rangeD i (j - i).toNat) (fun _ => True) C) : kIR2 PI [.int i, .int j] C := ⟨h1, h⟩
def kIE (PI : List D → (AH → Prop) → AH → Prop) : List D → AH → Prop := fun us C1 => match us with | [x] => (match asLr C1 x with | some ds => PI (enumD ds) (fun C' => asLr C' x = some ds) C1 | none => False) | _ => False
theorem g_ie (h : aa s C (kIE PI)) : aIE aa s C PI := h
theorem g_kIE {us : List D} (h : PI (enumD us) (fun _ => True) C) : kIE PI [.lst us] C := by
  show PI (enumD us) (fun C' => asLr C' (.lst us) = some us) C
  have m : (fun _ : AH => True) = fun C' : AH => asLr C' (.lst us) = some us := by funext C'; simp [asLr, asL]
  rw [← m]
  exact h
def kIZ (PI : List D → (AH → Prop) → AH → Prop) : List D → AH → Prop := fun us C1 => match us with | [x, y] => (match asLr C1 x, asLr C1 y with | some ds, some es => PI (zipD ds es) (fun C' => asLr C' x = some ds ∧ asLr C' y = some es) C1 | _, _ => False) | _ => False
theorem g_iz (h : aa s C (kIZ PI)) : aIZ aa s C PI := h
theorem g_kIZ {us ws : List D} (h : PI (zipD us ws) (fun _ => True) C) : kIZ PI [.lst us, .lst ws] C := by
  show PI (zipD us ws) (fun C' => asLr C' (.lst us) = some us ∧ asLr C' (.lst ws) = some ws) C
  have m : (fun _ : AH => True) = fun C' : AH => asLr C' (.lst us) = some us ∧ asLr C' (.lst ws) = some ws := by funext C'; simp [asLr, asL]
  rw [← m]
  exact h
/-- a loop whose items are known -/
def kFor (g : AG') (ab : AS') (nx : ASt → AH → Prop) (rt : D → AH → Prop) (s : ASt) : List D → (AH → Prop) → AH → Prop := fun items hold C => ∃ W : Nat → ASt → AH → Prop, W 0 s C ∧ (∀ i s' C', i ≤ items.length → W i s' C' → hold C') ∧
  (∀ i d s' C', items[i]? = some d → W i s' C' → g d s' C' fun s2 C2 => ab ⟨W (i + 1), rt, nx, W (i + 1)⟩ s2 C2) ∧ ∀ s' C', W items.length s' C' → nx s' C'
theorem g_for {ab : AS'} (h : w s C (kFor g ab nx rt s)) : aFor w g ab ⟨nx, rt, bk, ct⟩ s C := h
theorem g_kFor {ab : AS'} {items : List D} (W : Nat → ASt → AH → Prop) (h0 : W 0 s C)
    (hs : ∀ i d s' C', items[i]? = some d → W i s' C' → g d s' C' fun s2 C2 => ab ⟨W (i + 1), rt, nx, W (i + 1)⟩ s2 C2) (hd : ∀ s' C', W items.length s' C' → nx s' C') : kFor g ab nx rt s items (fun _ => True) C :=
  ⟨W, h0, fun _ _ _ _ _ => trivial, hs, hd⟩
theorem g_kForH {ab : AS'} {items : List D} {hold : AH → Prop} (W : Nat → ASt → AH → Prop) (h0 : W 0 s C) (hh : ∀ i s' C', i ≤ items.length → W i s' C' → hold C')
    (hs : ∀ i d s' C', items[i]? = some d → W i s' C' → g d s' C' fun s2 C2 => ab ⟨W (i + 1), rt, nx, W (i + 1)⟩ s2 C2) (hd : ∀ s' C', W items.length s' C' → nx s' C') : kFor g ab nx rt s items hold C :=
  ⟨W, h0, hh, hs, hd⟩
/-- over a range -/
theorem g_kForR {ab : AS'} {lo : Int} {n j : Nat} (W : Nat → ASt → AH → Prop) (h0 : W 0 s C)
    (hs : ∀ (i : Nat) s' C', i < n → W i s' C' → ab ⟨W (i + 1), rt, nx, W (i + 1)⟩ (s'.set j (some (.int (lo + i)))) C') (hd : ∀ s' C', W n s' C' → nx s' C') : kFor (aGName j) ab nx rt s (rangeD lo n) (fun _ => True) C := by
  refine g_kFor W h0 (fun i d s' C' hi hw => ?_) (fun s' C' hw => hd s' C' (by rw [rangeD_len] at hw; exact hw))
  have hl : i < n := by
    have := (List.getElem?_eq_some_iff.mp hi).1
    rw [rangeD_len] at this
    exact this
  rw [rangeD_get hl] at hi
  cases hi
  exact hs i s' C' hl hw
theorem g_kForR0 {ab : AS'} {n j : Nat} (W : Nat → ASt → AH → Prop) (h0 : W 0 s C)
    (hs : ∀ (i : Nat) s' C', i < n → W i s' C' → ab ⟨W (i + 1), rt, nx, W (i + 1)⟩ (s'.set j (some (.int (i : Int)))) C') (hd : ∀ s' C', W n s' C' → nx s' C') : kFor (aGName j) ab nx rt s (rangeD 0 n) (fun _ => True) C :=
  g_kForR W h0 (fun i s' C' hi w => by rw [Int.zero_add]; exact hs i s' C' hi w) hd
/-- over a list of which something is known of each item -/
theorem g_kForL {ab : AS'} {items : List D} {j : Nat} (W : Nat → ASt → AH → Prop) (h0 : W 0 s C)
    (hs : ∀ (i : Nat) d s' C', items[i]? = some d → W i s' C' → ab ⟨W (i + 1), rt, nx, W (i + 1)⟩ (s'.set j (some d)) C') (hd : ∀ s' C', W items.length s' C' → nx s' C') : kFor (aGName j) ab nx rt s items (fun _ => True) C := g_kFor W h0 hs hd
def kLc (g : AG') (t : AT') (e : AE') (vs : List Nat) (fin : List D → AH → Prop) (s : ASt) : List D → (AH → Prop) → AH → Prop := fun items hold C1 => items.length ≤ sizeLine ∧ ∃ W : Nat → List D → AH → Prop, W 0 [] C1 ∧ (∀ i acc C', i ≤ items.length → W i acc C' → hold C') ∧
  (∀ i d acc C', items[i]? = some d → W i acc C' → g d (wipeA s vs) C' fun s2 C2 => t s2 C2 fun b C3 => if b = true then e s2 C3 fun y C4 => W (i + 1) (acc ++ [y]) C4 else W (i + 1) acc C3) ∧ ∀ acc C', W items.length acc C' → fin acc C'
theorem g_lc {t : AT'} {vs : List Nat} (h : w s C (kLc g t e vs (fun acc C' => P (.lst acc) C') s)) : aLc w g t e vs s C P := h
theorem g_lcM {t : AT'} {vs : List Nat} (h : w s C (kLc g t e vs (fun acc C' => ∀ p, C' p = none → P (.ce p) (put C' p (.lst acc))) s)) : aLcM w g t e vs s C P := h
theorem g_kLc {t : AT'} {vs : List Nat} {fin : List D → AH → Prop} {items : List D} (W : Nat → List D → AH → Prop) (hl : items.length ≤ sizeLine) (h0 : W 0 [] C)
    (hs : ∀ i d acc C', items[i]? = some d → W i acc C' → g d (wipeA s vs) C' fun s2 C2 => t s2 C2 fun b C3 => if b = true then e s2 C3 fun y C4 => W (i + 1) (acc ++ [y]) C4 else W (i + 1) acc C3) (hd : ∀ acc C', W items.length acc C' → fin acc C') : kLc g t e vs fin s items (fun _ => True) C :=
  ⟨hl, W, h0, fun _ _ _ _ _ => trivial, hs, hd⟩
theorem kLc_mono {t : AT'} {vs : List Nat} {fin : List D → AH → Prop} {items : List D} {h1 h2 : AH → Prop} (m : ∀ C, h1 C → h2 C) (h : kLc g t e vs fin s items h1 C) : kLc g t e vs fin s items h2 C := by
  obtain ⟨l, W, a, b, c, d⟩ := h
  exact ⟨l, W, a, fun i s' C' hi hw => m _ (b i s' C' hi hw), c, d⟩
/-- [f x for x in items], each as it stands, the cells stay -/
theorem g_kLcMap {vs : List Nat} {fin : List D → AH → Prop} {items : List D} {j : Nat} (f : D → D) (hl : items.length ≤ sizeLine) (hs : ∀ d, d ∈ items → ∀ R : D → AH → Prop, R (f d) C → e ((wipeA s vs).set j (some d)) C R) (hd : fin (items.map f) C) : kLc (aGName j) aYes e vs fin s items (fun _ => True) C := by
  refine g_kLc (fun i acc C' => acc = (items.take i).map f ∧ C' = C) hl ⟨rfl, rfl⟩ (fun i d acc C' hi hw => ?_) (fun acc C' hw => ?_)
  · obtain ⟨rfl, rfl⟩ := hw
    refine hs d (List.mem_of_getElem? hi) _ ⟨?_, rfl⟩
    rw [List.take_add_one, hi, List.map_append]
    rfl
  · obtain ⟨rfl, rfl⟩ := hw
    rw [List.take_length]
    exact hd
end
theorem g_sz {n : Nat} {A : Prop} (h1 : n ≤ sizeLine) (h : A) : n ≤ sizeLine ∧ A := ⟨h1, h⟩
theorem g_ty {T : String} {C : AH} {d : D} {A : Prop} (h1 : isTy T C d = true) (h : A) : isTy T C d = true ∧ A := ⟨h1, h⟩
theorem ne_cell {C : AH} {p q : Addr} {c : Cell} (h : C p = some c) (g : C q = none) : p ≠ q := fun z => by rw [z, g] at h; cases h
theorem put_other {C : AH} {p q : Addr} {o : Option Cell} {d : Cell} (hn : p ≠ q) (h : C p = o) : put C q d p = o := by rw [put_ne hn]; exact h
theorem del_other {C : AH} {p q : Addr} {o : Option Cell} (hn : p ≠ q) (h : C p = o) : del C q p = o := by unfold del; rw [if_neg hn]; exact h
end AL
namespace AL
open PySem L2
mutual
def okD : D → Nat → Bool
  | .non, _ => true
  | .bl _, _ => true
  | .int _, _ => true
  | .str x, _ => x.cps.all (· < 0x110000)
  | .lst ds, n + 1 => okL ds n
  | .tup ds, n + 1 => okL ds n
  | _, _ => false
def okL : List D → Nat → Bool
  | [], _ => true
  | d :: ds, n => okD d n && okL ds n
end
theorem okL_all {ds : List D} {n : Nat} : okL ds n = true ↔ ∀ d ∈ ds, okD d n = true := by
  induction ds with
  | nil => simp [okL]
  | cons d ds ih => simp [okL, ih]
mutual
theorem okD_pd : ∀ (d : D) (n : Nat), okD d n = true → ∃ x, d.pd = some x ∧ x.canLay0 = true ∧ x.depth ≤ n
  | .non, n, _ => ⟨.none, by simp [D.pd], by simp [PyData.canLay0], by simp [PyData.depth]⟩
  | .bl b, n, _ => ⟨.bool b, by simp [D.pd], by simp [PyData.canLay0], by simp [PyData.depth]⟩
  | .int i, n, _ => ⟨.int i, by simp [D.pd], by simp [PyData.canLay0], by simp [PyData.depth]⟩
  | .str x, n, h => ⟨.str x, by simp [D.pd], by simpa [PyData.canLay0, PyData.strOk, okD] using h, by simp [PyData.depth]⟩
  | .lst ds, 0, h => by simp [okD] at h
  | .lst ds, n + 1, h => by
    obtain ⟨xs, h1, h2, h3⟩ := okL_pd ds n (by simpa [okD] using h)
    exact ⟨.list xs, by simp [D.pd, h1], by simpa [PyData.canLay0] using h2, by simp [PyData.depth]; omega⟩
  | .tup ds, 0, h => by simp [okD] at h
  | .tup ds, n + 1, h => by
    obtain ⟨xs, h1, h2, h3⟩ := okL_pd ds n (by simpa [okD] using h)
    exact ⟨.tuple xs, by simp [D.pd, h1], by simpa [PyData.canLay0] using h2, by simp [PyData.depth]; omega⟩
  | .dk _, _, h => by simp [okD] at h
  | .scr _, _, h => by simp [okD] at h
  | .ce _, _, h => by simp [okD] at h
theorem okL_pd : ∀ (ds : List D) (n : Nat), okL ds n = true → ∃ xs, pdL ds = some xs ∧ PyData.canLayAll0 xs = true ∧ PyData.depthAll xs ≤ n
  | [], n, _ => ⟨[], by simp [pdL], by simp [PyData.canLayAll0], by simp [PyData.depthAll]⟩
  | d :: ds, n, h => by
    simp only [okL, Bool.and_eq_true] at h
    obtain ⟨x, a1, a2, a3⟩ := okD_pd d n h.1
    obtain ⟨xs, b1, b2, b3⟩ := okL_pd ds n h.2
    exact ⟨x :: xs, by simp [pdL, a1, b1], by simp [PyData.canLayAll0, a2, b2], by simp [PyData.depthAll]; omega⟩
end
theorem okD_shaped {d : D} {n : Nat} (h : okD d n = true) (hn : n ≤ 64) : ∃ x, d.pd = some x ∧ SeqAt.shaped x = true ∧ PyData.eqv x x = true := by
  obtain ⟨x, h1, h2, h3⟩ := okD_pd d n h
  refine ⟨x, h1, ?_, SeqAt.eqv_refl x h2⟩
  unfold SeqAt.shaped
  rw [h2, decide_eq_true (show x.depth ≤ 64 by omega)]
  rfl
theorem okD_lst {ds : List D} {n : Nat} (h : ∀ d ∈ ds, okD d n = true) : okD (.lst ds) (n + 1) = true := by
  simp only [okD]; exact okL_all.mpr h
theorem okD_tup {ds : List D} {n : Nat} (h : ∀ d ∈ ds, okD d n = true) : okD (.tup ds) (n + 1) = true := by
  simp only [okD]; exact okL_all.mpr h
def oD : Option Nat → D
  | none => .non
  | some n => .int (n : Int)
@[simp] theorem okD_oD (o : Option Nat) (n : Nat) : okD (oD o) n = true := by cases o <;> simp [oD, okD]
theorem isNon_oD (o : Option Nat) : isNon (oD o) = o.isNone := by cases o <;> rfl
/-- a machine as a tree -/
abbrev goesD (goes : List (List (Option Nat))) : D := .lst (goes.map fun r => .lst (r.map oD))
abbrev endsD (ends : List Bool) : D := .lst (ends.map .bl)
abbrev machD (ends : List Bool) (goes : List (List (Option Nat))) : D := .tup [endsD ends, goesD goes]
theorem okD_goes (goes : List (List (Option Nat))) (n : Nat) : okD (goesD goes) (n + 2) = true := by
  refine okD_lst fun d hd => ?_
  obtain ⟨r, _, rfl⟩ := List.mem_map.mp hd
  refine okD_lst fun d hd => ?_
  obtain ⟨o, _, rfl⟩ := List.mem_map.mp hd
  exact okD_oD o n
theorem okD_ends (ends : List Bool) (n : Nat) : okD (endsD ends) (n + 1) = true := by
  refine okD_lst fun d hd => ?_
  obtain ⟨r, _, rfl⟩ := List.mem_map.mp hd
  simp [okD]
theorem okD_mach (ends : List Bool) (goes : List (List (Option Nat))) (n : Nat) : okD (machD ends goes) (n + 3) = true := by
  refine okD_tup fun d hd => ?_
  simp only [List.mem_cons, List.not_mem_nil, or_false] at hd
  rcases hd with rfl | rfl
  · exact okD_ends ends (n + 1)
  · exact okD_goes goes n
/-- sg signs; every stand that is led to is there -/
structure Mach (sg : Nat) (ends : List Bool) (goes : List (List (Option Nat))) : Prop where
  len : ends.length = goes.length
  pos : 0 < ends.length
  most : ends.length ≤ 1000
  row : ∀ r ∈ goes, r.length = sg
  go : ∀ r ∈ goes, ∀ t, some t ∈ r → t < ends.length
def stepO (goes : List (List (Option Nat))) (s : Option Nat) (n : Nat) : Option Nat := match s with
  | none => none
  | some t => match goes[t]? with
    | some r => (match r[n]? with | some o => o | none => none)
    | none => none
def runO (goes : List (List (Option Nat))) (s : Option Nat) (row : List Nat) : Option Nat := row.foldl (stepO goes) s
def inn (n : Nat) (s : Option Nat) : Prop := ∀ t, s = some t → t < n
theorem Mach.step {sg : Nat} {ends : List Bool} {goes : List (List (Option Nat))} (M : Mach sg ends goes) {s : Option Nat} {n : Nat} (hs : inn ends.length s) (hn : n < sg) : inn ends.length (stepO goes s n) := by
  intro t ht
  cases s with
  | none => cases ht
  | some u =>
    have hu := hs u rfl
    have hu' : u < goes.length := by rw [← M.len]; exact hu
    have hr := M.row goes[u] (List.getElem_mem hu')
    simp only [stepO, List.getElem?_eq_getElem hu', List.getElem?_eq_getElem (show n < goes[u].length by rw [hr]; exact hn)] at ht
    exact M.go goes[u] (List.getElem_mem hu') t (by rw [← ht]; exact List.getElem_mem _)
theorem Mach.run {sg : Nat} {ends : List Bool} {goes : List (List (Option Nat))} (M : Mach sg ends goes) : ∀ (row : List Nat) {s : Option Nat}, inn ends.length s → (∀ n ∈ row, n < sg) → inn ends.length (runO goes s row)
  | [], _, hs, _ => hs
  | n :: row, _, hs, hr => M.run row (M.step hs (hr n (List.mem_cons_self))) fun k hk => hr k (List.mem_cons_of_mem _ hk)
section
variable {sg : Nat} {ends : List Bool} {goes : List (List (Option Nat))} {C : AH} {P : D → AH → Prop}
theorem get_end {u : Nat} (hu : u < ends.length) (h : P (.bl ends[u]) C) : aIx (endsD ends) (.int (u : Int)) C P := by
  refine g_ixL (atI_nat' ?_) h
  rw [List.getElem?_map, List.getElem?_eq_getElem hu]
  rfl
end
end AL
namespace AL
open PySem L2
abbrev natsD (row : List Nat) : List D := row.map fun (n : Nat) => D.int (n : Int)
@[simp] theorem natsD_len (row : List Nat) : (natsD row).length = row.length := by unfold natsD; rw [List.length_map]
theorem enumD_inv {ds : List D} {i : Nat} {d : D} (h : (enumD ds)[i]? = some d) : ∃ x, ds[i]? = some x ∧ d = .tup [.int i, x] := by
  have hi := (List.getElem?_eq_some_iff.mp h).1
  rw [enumD_len] at hi
  refine ⟨ds[i], List.getElem?_eq_getElem hi, ?_⟩
  rw [enumD_get (List.getElem?_eq_getElem hi)] at h
  cases h
  rfl
end AL
namespace AL
open PySem PySem.Spec L2
variable {B : Bs}
def keyOf : D → Option Key
  | .int i => some (.inl i)
  | .str x => some (.inr x)
  | _ => none
def valD (es : List (Key × D)) (k : Key) : Option D := (es.find? fun kv => decide (kv.1 = k)).map (·.2)
def putD (es : List (Key × D)) (k : Key) (d : D) : List (Key × D) :=
  if (es.any fun kv => decide (kv.1 = k)) = true then es.map (fun kv => if kv.1 = k then (kv.1, d) else kv) else es ++ [(k, d)]
def asK (C : AH) : D → Option (List (Key × D))
  | .dk es => some es
  | .ce p => (match C p with | some (.dk es) => some es | _ => none)
  | _ => none
section
variable {K : PySem.W.Frag} {F F' : Hp} {C : AH} {R H : Hp}
theorem keyOf_ok {v : V} {d : D} {k : Key} (r : Rep K F v d) (h : keyOf d = some k) : v = kV k := by
  cases r <;> simp [keyOf] at h <;> subst h <;> rfl
theorem RepK.val (k : Key) : ∀ {vs : List (Key × V)} {ds : List (Key × D)}, RepK K F vs ds → (match valD ds k with | some d => ∃ v, valV vs k = some v ∧ Rep K F v d | none => valV vs k = none)
  | _, _, .nil => rfl
  | (j, v) :: vs, (_, d) :: ds, .cons r t => by
    have ih := RepK.val k t
    unfold valD valV at ih ⊢
    by_cases e : j = k
    · subst e
      simp only [List.find?_cons, decide_true, Option.map_some]
      exact ⟨v, rfl, r⟩
    · simp only [List.find?_cons, decide_eq_false e]
      exact ih
theorem RepK.any (k : Key) : ∀ {vs : List (Key × V)} {ds : List (Key × D)}, RepK K F vs ds → (vs.any fun kv => decide (kv.1 = k)) = ds.any fun kv => decide (kv.1 = k)
  | _, _, .nil => rfl
  | _, _, .cons r t => by rw [List.any_cons, List.any_cons, RepK.any k t]
theorem RepK.repl (k : Key) {v : V} {d : D} (r : Rep K F v d) : ∀ {vs : List (Key × V)} {ds : List (Key × D)}, RepK K F vs ds → RepK K F (vs.map fun kv => if kv.1 = k then (kv.1, v) else kv) (ds.map fun kv => if kv.1 = k then (kv.1, d) else kv)
  | _, _, .nil => .nil
  | (j, _) :: _, _, .cons q t => by
    rw [List.map_cons, List.map_cons]
    by_cases e : j = k
    · rw [if_pos e, if_pos e]; exact .cons r (RepK.repl k r t)
    · rw [if_neg e, if_neg e]; exact .cons q (RepK.repl k r t)
theorem RepK.snoc (k : Key) {v : V} {d : D} (r : Rep K F v d) : ∀ {vs : List (Key × V)} {ds : List (Key × D)}, RepK K F vs ds → RepK K F (vs ++ [(k, v)]) (ds ++ [(k, d)])
  | _, _, .nil => .cons r .nil
  | _, _, .cons q t => .cons q (RepK.snoc k r t)
theorem RepK.put (k : Key) {v : V} {d : D} (r : Rep K F v d) {vs : List (Key × V)} {ds : List (Key × D)} (h : RepK K F vs ds) : RepK K F (putK vs k v) (putD ds k d) := by
  unfold putK putD
  rw [RepK.any k h]
  split
  · exact RepK.repl k r h
  · exact RepK.snoc k r h
theorem asK_ok {v : V} {d : D} {es : List (Key × D)} (hS : Sat B K F C R H) (r : Rep K F v d) (h : asK C d = some es) : ∃ a kvs, v = .ref a ∧ H a = some (.dK kvs) ∧ RepK K F kvs es := by
  cases d with
  | dk e =>
    cases h
    cases r with
    | dk h1 h2 => exact ⟨_, _, rfl, hS.ex _ _ h1, h2⟩
  | ce p =>
    cases r
    have h : (match C p with | some (.dk es) => some es | _ => none) = some es := h
    cases q : C p with
    | none => rw [q] at h; cases h
    | some c =>
      rw [q] at h
      obtain ⟨_, o, h1, h2⟩ := hS.cell p c q
      cases c with
      | dk e =>
        cases h
        cases h2 with
        | dk h3 => exact ⟨p, _, rfl, h1, h3⟩
      | _ => cases h
  | _ => cases h
end
/-- d[k] -/
def aGetK (o i : AE') : AE' := fun s C P => o s C fun x C1 => i s C1 fun y C2 => match asK C2 x, keyOf y with
  | some es, some k => (match valD es k with | some d => P d C2 | none => False)
  | _, _ => False
section
variable {X : Cx} {pos : Pos} {o i e : Expr} {to ti te : TE} {ao ai a : AE'}
/-- d[k] = e -/
def aPutK (o i e : AE') : AS' := fun E s C => e s C fun d C1 => o s C1 fun x C2 => i s C2 fun y C3 => match x, keyOf y with
  | .ce p, some k => (match C3 p with | some (.dk es) => es.length < sizeLine ∧ E.nx s (put C3 p (.dk (putD es k d))) | _ => False)
  | _, _ => False
end
/-- a, b = x, y -/
def aPar (i j : Nat) (aa : AA') : AS' := fun E s C => aa s C fun ds C1 => match ds with
  | [d, e] => E.nx ((s.set i (some d)).set j (some e)) C1
  | _ => False
section
variable {nx : ASt → AH → Prop} {rt : D → AH → Prop} {bk ct : ASt → AH → Prop} {s : ASt} {C : AH} {P : D → AH → Prop} {aa : AA'} {e : AE'} {i j : Nat} {p : Addr}
def kPar (i j : Nat) (nx : ASt → AH → Prop) (s : ASt) : List D → AH → Prop := fun ds C1 => match ds with
  | [d, e] => nx ((s.set i (some d)).set j (some e)) C1
  | _ => False
theorem g_par (h : aa s C (kPar i j nx s)) : aPar i j aa ⟨nx, rt, bk, ct⟩ s C := (congrArg (aa s C) (by funext ds C1; rfl)).mpr h
theorem g_kPar {d e : D} {s' : ASt} (h0 : (s.set i (some d)).set j (some e) = s') (h : nx s' C) : kPar i j nx s [d, e] C := by
  subst h0
  exact h
theorem g_neg {z : Int} (h : P (.int (-z)) C) : aNeg (.int z) C P := h
def penD (x y z : D) : Cell := .dk [(.inr "script", x), (.inr "at", y), (.inr "left", z)]
theorem g_pen0 {x y z : D} (hi : s[i]? = some (some (.ce p))) (h1 : C p = some (penD x y z)) (h : P x C) : aGetK (aVar i) (aC (.str "script")) s C P := by
  refine g_var hi ?_
  show (match (match C p with | some (.dk es) => some es | _ => none), keyOf (.str "script") with | some es, some k => (match valD es k with | some d => P d C | none => False) | _, _ => False)
  rw [h1]
  exact h
theorem g_pen1 {x y z : D} (hi : s[i]? = some (some (.ce p))) (h1 : C p = some (penD x y z)) (h : P y C) : aGetK (aVar i) (aC (.str "at")) s C P := by
  refine g_var hi ?_
  show (match (match C p with | some (.dk es) => some es | _ => none), keyOf (.str "at") with | some es, some k => (match valD es k with | some d => P d C | none => False) | _, _ => False)
  rw [h1]
  exact h
theorem g_pen2 {x y z : D} (hi : s[i]? = some (some (.ce p))) (h1 : C p = some (penD x y z)) (h : P z C) : aGetK (aVar i) (aC (.str "left")) s C P := by
  refine g_var hi ?_
  show (match (match C p with | some (.dk es) => some es | _ => none), keyOf (.str "left") with | some es, some k => (match valD es k with | some d => P d C | none => False) | _, _ => False)
  rw [h1]
  exact h
def kPut (i : Nat) (x : Str) (nx : ASt → AH → Prop) (s : ASt) : D → AH → Prop := fun d C1 => aVar i s C1 fun x' C2 => match x' with
  | .ce p => (match C2 p with | some (.dk es) => es.length < sizeLine ∧ nx s (put C2 p (.dk (putD es (.inr x) d))) | _ => False)
  | _ => False
theorem g_putK {x : Str} (h : e s C (kPut i x nx s)) : aPutK (aVar i) (aC (.str x)) e ⟨nx, rt, bk, ct⟩ s C := by
  refine (congrArg (e s C) ?_).mpr h
  funext d C1
  refine congrArg (aVar i s C1) ?_
  funext y C2
  cases y <;> rfl
theorem g_kPut1 {x y z d : D} (hi : s[i]? = some (some (.ce p))) (h1 : C p = some (penD x y z)) (h : nx s (put C p (penD x d z))) : kPut i "at" nx s d C := by
  refine g_var hi ?_
  show (match C p with | some (.dk es) => es.length < sizeLine ∧ nx s (put C p (.dk (putD es (.inr "at") d))) | _ => False)
  rw [h1]
  exact ⟨by show 3 < sizeLine; decide, h⟩
theorem g_kPut2 {x y z d : D} (hi : s[i]? = some (some (.ce p))) (h1 : C p = some (penD x y z)) (h : nx s (put C p (penD x y d))) : kPut i "left" nx s d C := by
  refine g_var hi ?_
  show (match C p with | some (.dk es) => es.length < sizeLine ∧ nx s (put C p (.dk (putD es (.inr "left") d))) | _ => False)
  rw [h1]
  exact ⟨by show 3 < sizeLine; decide, h⟩
end
end AL
namespace AL
open PySem PySem.Spec L2
variable {B : Bs}
section
variable {s : ASt} {C : AH} {P : D → AH → Prop} {a e : AE'} {l h : AO'} {PO : Option Int → AH → Prop}
theorem g_sl {r : D → Option Int → Option Int → AH → (D → AH → Prop) → Prop} (h0 : a s C fun x C1 => l s C1 fun i C2 => h s C2 fun j C3 => r x i j C3 P) : aSl r a l h s C P := h0
theorem g_noPart (h0 : PO none C) : aNoPart s C PO := h0
def kPart (PO : Option Int → AH → Prop) : D → AH → Prop := fun x C1 => match x with | .int i => PO (some i) C1 | _ => False
theorem g_part (h0 : e s C (kPart PO)) : aPart e s C PO := (congrArg (e s C) (by funext x C1; cases x <;> rfl)).mpr h0
theorem g_kPart {i : Int} (h0 : PO (some i) C) : kPart PO (.int i) C := h0
theorem cutD_take (ds : List D) (j : Nat) : cutD ds none (some (j : Int)) = ds.take j := by
  unfold cutD
  rw [HT.sIx_none, HT.sIx_nat, List.drop_zero, Nat.sub_zero]
  by_cases hj : j ≤ ds.length
  · rw [Nat.min_eq_left hj]
  · rw [Nat.min_eq_right (by omega), List.take_of_length_le (by omega), List.take_of_length_le (by omega)]
theorem cutD_drop (ds : List D) (j : Nat) : cutD ds (some (j : Int)) none = ds.drop j := by
  unfold cutD
  rw [HT.sIx_none, HT.sIx_nat]
  by_cases hj : j ≤ ds.length
  · rw [Nat.min_eq_left hj, List.take_of_length_le (by rw [List.length_drop]; omega)]
  · rw [Nat.min_eq_right (by omega), List.drop_eq_nil_of_le (Nat.le_refl _), List.drop_eq_nil_of_le (by omega)]
    simp
theorem g_cutTake {us : List D} {j : Nat} (h0 : P (.lst (us.take j)) C) : aCut (.lst us) none (some (j : Int)) C P := by
  show P (.lst (cutD us none (some (j : Int)))) C
  rw [cutD_take]; exact h0
end
end AL
namespace AL
open PySem PySem.Spec PyProof.Rows L2
variable {B : Bs}
section
variable {X : Cx} {K : PySem.W.Frag}
def signsV (z : Str) : List V := z.cps.toList.map fun c => V.str ⟨#[c]⟩
def toV : D → Option V
  | .non => some .non
  | .bl b => some (.bl b)
  | .int i => some (.int i)
  | .str x => some (.str x)
  | _ => none
def toVs : List D → Option (List V)
  | [] => some []
  | d :: ds => match toV d, toVs ds with | some v, some vs => some (v :: vs) | _, _ => none
theorem toV_ok {F : Hp} {v u : V} {d : D} (r : Rep K F v d) (h : toV d = some u) : v = u ∧ flatV u = true := by
  cases r <;> simp [toV] at h <;> subst h <;> exact ⟨rfl, rfl⟩
theorem toVs_ok {F : Hp} : ∀ {vs us : List V} {ds : List D}, RepL K F vs ds → toVs ds = some us → vs = us ∧ us.all flatV = true
  | _, _, _, .nil, h => by cases h; exact ⟨rfl, rfl⟩
  | _, us, d :: ds, .cons r t, h => by
    unfold toVs at h
    split at h
    · rename_i v vs e1 e2
      cases h
      obtain ⟨a1, a2⟩ := toV_ok r e1
      obtain ⟨b1, b2⟩ := toVs_ok t e2
      subst a1 b1
      exact ⟨rfl, by simp [a2, b2]⟩
    · cases h
def aIn (neg : Bool) : D → D → AH → (D → AH → Prop) → Prop := fun x y C P => match toV x, (asS C y).bind toVs with
  | some u, some us => P (.bl (if neg then !inV u us else inV u us)) C
  | _, _ => False
abbrev aInL := aIn false
theorem sim_in (neg : Bool) : SimR2 B K (rIn K neg) (aIn neg) := by
  intro v w d e F C R H Q P hS r1 r2 h k
  unfold aIn at h
  split at h
  · rename_i u us e1 e2
    obtain ⟨ds, e3, e4⟩ := Option.bind_eq_some_iff.mp e2
    obtain ⟨a, xs, rfl, h1, h2⟩ := asS_ok hS r2 e3
    obtain ⟨a1, a2⟩ := toV_ok r1 e1
    obtain ⟨b1, b2⟩ := toVs_ok h2 e4
    subst a1 b1
    exact ⟨a, xs, rfl, h1, a2, b2, k _ _ F C H (Ex.refl F) hS (.bl _) h⟩
  · exact h.elim
theorem ao_inL (hK : X.K = K := by rfl) : AOp B X (compareOp .In) (rIn K false) aInL := by subst hK; exact ⟨op_in_seq, sim_in false⟩
def aNoS : AS' := fun _ _ _ => False
theorem as_no {st : Stmt} : AS B X st (fun _ _ _ => False) aNoS := ⟨⟨fun _ _ _ _ _ _ h => h.elim⟩, fun _ _ _ _ _ _ _ _ _ _ _ h => h.elim⟩
end
end AL
namespace AL
open PySem PySem.Spec L2
end AL
namespace AL
open PySem PySem.Spec PyProof.Rows L2
variable {B : Bs}
def okS (z : Str) : Prop := ∀ c ∈ z.cps.toList, c < 0x110000
def One (z : Str) : Prop := ∃ c : Nat, z = ⟨#[c]⟩ ∧ c < 0x110000
theorem One.len {z : Str} (h : One z) : z.length = 1 := by obtain ⟨c, rfl, _⟩ := h; rfl
theorem One.ok {z : Str} (h : One z) : okS z := by
  obtain ⟨c, rfl, hc⟩ := h
  intro d hd
  have : d = c := by simpa using hd
  rw [this]; exact hc
end AL
namespace AL
open PySem PySem.Spec PyProof.Rows L2
end AL
namespace HT
open PySem PySem.Spec PyProof.Rows L2
section
variable {prog : Program} {w : World} {A : Around} {E : Value → Shared → Prop} {s : Shared}
theorem sliceApplied_rev {sl : Addr} {vl vu vs : Value} {n : Nat} {Q : Int × Int × Nat → Shared → Prop} (hs : s.heap.IsSliceOf sl vl vu vs) (pl : IsPart vl none) (pu : IsPart vu none) (ps : IsPart vs (some (-1)))
    (h : Q ((n : Int) - 1, -1, n) s) : wpAny (model prog w) A (Builtin.Slice.sliceApplied (.ref sl) (pure (n : Int))) Q E s := by
  obtain ⟨os, hos, hcs, hds⟩ := id hs
  unfold Builtin.Slice.sliceApplied Builtin.Slice.sliceFields
  refine wpAny_bind (wpAny_bind (wpAny_field hos hds (x := vl) rfl (wpAny_bind (wpAny_field hos hds (x := vu) rfl (wpAny_bind (wpAny_field hos hds (x := vs) rfl (wpAny_pure ?_)))))))
  refine wpAny_bind (slicePart_ ps ?_)
  show wpAny _ _ (if ((-1 : Int) == 0) = true then _ else _) _ _ s
  rw [if_neg (by decide)]
  refine wpAny_bind (slicePart_ pl (wpAny_bind (slicePart_ pu (wpAny_bind (wpAny_pure ?_)))))
  show wpAny _ _ (match Builtin.Slice.sliceAdjust none none (-1) (n : Int) with | (lo, hi) => pure (lo, (-1 : Int), Builtin.Slice.slicePlaces lo hi (-1))) _ _ s
  have e : Builtin.Slice.sliceAdjust none none (-1) (n : Int) = ((n : Int) - 1, -1) := by
    unfold Builtin.Slice.sliceAdjust
    simp
  have e2 : Builtin.Slice.slicePlaces ((n : Int) - 1) (-1) (-1) = n := by
    unfold Builtin.Slice.slicePlaces
    simp
    omega
  rw [e]
  show wpAny _ _ (pure ((n : Int) - 1, (-1 : Int), Builtin.Slice.slicePlaces ((n : Int) - 1) (-1) (-1))) _ _ s
  rw [e2]
  exact wpAny_pure h
theorem fmap_some {α β : Type} {f : α → Option β} {g : α → β} : ∀ {l : List α}, (∀ m ∈ l, f m = some (g m)) → l.filterMap f = l.map g
  | [], _ => rfl
  | m :: l, h => by
    rw [List.filterMap_cons, h m (List.mem_cons_self ..), List.map_cons, fmap_some fun k hk => h k (List.mem_cons_of_mem _ hk)]
theorem pick_rev (xs : Array Value) : ((List.range xs.size).filterMap fun (m : Nat) => xs[(((xs.size : Nat) : Int) - 1 + (m : Int) * (-1)).toNat]?).toArray = xs.toList.reverse.toArray := by
  congr 1
  have e : ∀ m ∈ List.range xs.size, xs[(((xs.size : Nat) : Int) - 1 + (m : Int) * (-1)).toNat]? = some (xs.toList.reverse.getD m .none) := by
    intro m hm
    have hm' : m < xs.size := List.mem_range.mp hm
    have e1 : (((xs.size : Nat) : Int) - 1 + (m : Int) * (-1)).toNat = xs.size - 1 - m := by omega
    have h2 : xs.size - 1 - m < xs.size := by omega
    have h3 : m < xs.toList.reverse.length := by rw [List.length_reverse, Array.length_toList]; exact hm'
    rw [e1, Array.getElem?_eq_getElem h2, List.getD, List.getElem?_eq_getElem h3]
    simp
  rw [fmap_some e]
  refine List.ext_getElem (by simp) fun i h1 h2 => ?_
  simp [List.getD, List.getElem?_eq_getElem h2]
theorem getItem_tuple_rev {t sl : Addr} {items : Array Value} {vl vu vs : Value} {Q : Value → Shared → Prop} (ht : IsTup s.heap t items) (hs : s.heap.IsSliceOf sl vl vu vs) (pl : IsPart vl none) (pu : IsPart vu none) (ps : IsPart vs (some (-1)))
    (h : Q (.ref s.heap.objs.size) { s with heap := s.heap.push { cls := .type "tuple", data := .seq items.toList.reverse.toArray } }) (hsz : items.size ≤ sizeLine) : wpAny (model prog w) A (getItem (.ref t) (.ref sl)) Q E s := by
  have htake : sizeOk (.seq items.toList.reverse.toArray) := by
    show items.toList.reverse.toArray.size ≤ sizeLine
    rw [List.size_toArray, List.length_reverse, Array.length_toList]
    exact hsz
  obtain ⟨os, hos, hcs, hds⟩ := id hs
  have hTs : s.TypeIs (.ref sl) "slice" := ⟨os, hos, hcs⟩
  unfold getItem
  try with_reducible refine wpAny_holding ?_
  first | refine wpAny_bind (wpAny_pure ?_) | skip
  refine wpAny_bind (wpAny_sequenceKey ht.typeIs (by decide) ?_)
  refine wpAny_bind (wpAny_callSpecial?_slot (name := Str.ofString "__getitem__") ht.typeIs PyProof.Rows.slot_tuple_getitem
    (wpAny_call_entry PyProof.Rows.slot_tuple_getitem ht.typeIs entry_tuple_getitem ?_ (args_tuple_getitem _ _)))
  show wpAny _ _ (Builtin.Tuple.tupleItemsOf (.ref t) >>= _) _ _ s
  refine wpAny_bind (tupleItemsOf_ ht ?_)
  refine wpAny_bind (wpAny_typeOf hTs ?_)
  rw [if_pos (by decide)]
  refine wpAny_bind (sliceApplied_rev hs pl pu ps ?_)
  have hno : ¬ ((((items.size : Nat) : Int) - 1 == 0 && (-1 : Int) == 1 && items.size == items.size) = true) := by
    intro q
    rw [Bool.and_eq_true, Bool.and_eq_true] at q
    exact absurd q.1.2 (by decide)
  show wpAny _ _ (if (((items.size : Nat) : Int) - 1 == 0 && (-1 : Int) == 1 && items.size == items.size) = true then _ else _) _ _ s
  rw [if_neg hno, pick_rev]
  first
    | exact wpAny_bind (m := Builtin.Tuple.tupleExact _) (wpAny_newObj_type (wpAny_pure ⟨_, rfl, wpAny_pure h⟩) htake)
    | exact wpAny_bind (m := Builtin.Tuple.tupleExact _) (wpAny_newObj_type (wpAny_bind (wpAny_pure (wpAny_pure ⟨_, rfl, wpAny_pure h⟩))) htake)
    | exact wpAny_bind (wpAny_bind (m := Builtin.Tuple.tupleExact _) (wpAny_newObj_type (wpAny_pure (wpAny_pure ⟨_, rfl, wpAny_pure h⟩)) htake))
    | exact wpAny_bind (wpAny_bind (m := Builtin.Tuple.tupleExact _) (wpAny_newObj_type (wpAny_pure ⟨_, rfl, wpAny_pure h⟩) htake))
end
end HT
namespace AL
open PySem PySem.Spec PyProof.Rows L2
variable {B : Bs}
section
variable {X : Cx} {K : PySem.W.Frag}
/-- t[::-1] of a tuple -/
def tRevT (K : PySem.W.Frag) (te : TE) : TE := fun σ H Q => te σ H fun x H1 => ∃ a xs, x = .ref a ∧ SqT K H1 a xs ∧ NewT xs.reverse Q H1
theorem pe_revT {e : Expr} {te : TE} {k : Nat} {p1 p2 p3 pos : Pos} (he : PE X e te) : PE X (.Subscript e (.Slice none none (some (.UnaryOp .USub (.Constant (.int 1) k p1) p2)) p3) pos) (tRevT X.K te) := by
  refine ⟨fun pins s σ H Q I h => ?_⟩
  refine Subscript_ (thn (he.run pins s σ H _ I h) fun v s1 ⟨x, H1, I1, r1, q1⟩ => ?_)
  obtain ⟨a, xs, ex, hx, q⟩ := q1
  subst ex
  cases r1
  have hst : PO X (some (.UnaryOp .USub (.Constant (.int 1) k p1) p2)) (tPart (tUn (rU fun i => .int (-i)) (tC (.int 1)))) := po_some (pe_un un_neg pe_int)
  refine wpAny_Slice (thn (po_none.run pins s1 σ H1 (fun o H2 => o = none ∧ H2 = H1) I1 ⟨rfl, rfl⟩) fun vl s2 ⟨l, H2, I2, pl, el, e2⟩ => ?_)
  subst el e2
  refine thn (po_none.run pins s2 σ H2 (fun o H3 => o = none ∧ H3 = H2) I2 ⟨rfl, rfl⟩) fun vu s3 ⟨u, H3, I3, pu, eu, e3⟩ => ?_
  subst eu e3
  refine thn (hst.run pins s3 σ H3 (fun o H4 => o = some (-1) ∧ H4 = H3) I3 ⟨1, rfl, -1, rfl, rfl, rfl⟩) fun vs s4 ⟨o, H4, I4, ps, eo, e4⟩ => ?_
  subst eo e4
  have I5 : Inv X pins σ H4 { s4 with heap := s4.heap.push { cls := .type "slice", data := .fields #[vl, vu, vs] } } := I4.kept (t' := s4.toks) fun b ob q => Heap.get?_push_of_some _ q
  obtain ⟨its, r, ht, hz⟩ := I5.tuple hx
  have hlen := r.length
  show wpAny (model X.prog X.w) X.A (subscriptTail e (.Slice none none (some (.UnaryOp .USub (.Constant (.int 1) k p1) p2)) p3) (.ref a) (.ref s4.heap.objs.size)) (EP X pins σ Q) X.xe { s4 with heap := s4.heap.push { cls := .type "slice", data := .fields #[vl, vu, vs] } }
  refine tail_any (ops := [.ref a, .ref s4.heap.objs.size]) ht.typeIs (PyProof.Rows.slot_tuple_getitem.lookup) ?_ (by with_unfolding_all rfl)
  refine HT.getItem_tuple_rev ht (Heap.IsSliceOf.new _ vl vu vs) pl pu ps ?_ (by rw [List.size_toArray]; omega)
  exact laidT (tk := s4.toks) I5 (by rw [List.length_reverse]; exact hz) r.reverse q
def aRevT : D → AH → (D → AH → Prop) → Prop := fun x C P => match asT x with | some ds => P (.tup ds.reverse) C | none => False
theorem ae_revT {pos : Pos} {e : Expr} {te : TE} {a : AE'} {k : Nat} {p1 p2 p3 : Pos} (he : AE B X e te a) (hK : X.K = K := by rfl) : AE B X (.Subscript e (.Slice none none (some (.UnaryOp .USub (.Constant (.int 1) k p1) p2)) p3) pos) (tRevT K te) (aUn aRevT a) := by
  subst hK
  exact ⟨pe_revT he.pe, by
  intro σ s F C R H Q P hs hS h0 k
  refine he.sim σ s F C R H _ _ hs hS h0 fun x v F1 C1 H1 e1 S1 r1 h1 => ?_
  unfold aRevT at h1
  split at h1
  · rename_i ds q
    obtain ⟨a, xs, e2, h2, h3⟩ := asT_ok S1 r1 q
    refine ⟨a, xs, e2, SqT.of h2, fun p ob hob hp => ?_⟩
    have e := Ex.new (o := .frz ob (.tup xs.reverse)) (S1.freeF hp)
    exact k _ _ _ C1 _ (e1.trans e) (S1.newF hp _) (.tup (.frz hob upd_same) (h3.reverse.mono e)) h1
  · exact h1.elim⟩
variable {C : AH} {P : D → AH → Prop}
theorem g_revT {ds : List D} (h : P (.tup ds.reverse) C) : aRevT (.tup ds) C P := h
end
end AL
namespace AL
open PySem PySem.Spec PyProof.Rows L2
end AL
namespace AL
open PySem PySem.Spec PyProof.Rows L2
end AL
namespace AL
open PySem
def Keep (C C' : AH) : Prop := ∀ r c, C r = some c → C' r = some c
theorem Keep.refl (C : AH) : Keep C C := fun _ _ h => h
theorem Keep.trans {C C1 C2 : AH} (a : Keep C C1) (b : Keep C1 C2) : Keep C C2 := fun r c h => b r c (a r c h)
theorem Keep.put {C C' : AH} {q : Addr} {c : Cell} (h : Keep C C') (hq : C q = none) : Keep C (AL.put C' q c) := fun r d e => by rw [put_ne (ne_cell e hq)]; exact h r d e
theorem Keep.del {C C' : AH} {q : Addr} (h : Keep C C') (hq : C q = none) : Keep C (AL.del C' q) := fun r d e => by
  unfold AL.del
  rw [if_neg (ne_cell e hq)]
  exact h r d e
theorem Keep.none {C C' : AH} {q : Addr} (h : Keep C C') (hq : C' q = Option.none) : C q = Option.none := by
  cases e : C q with
  | none => rfl
  | some c => rw [h q c e] at hq; cases hq
/-- all but p -/
def Oth (p : Addr) (C C' : AH) : Prop := ∀ r c, r ≠ p → C r = some c → C' r = some c
theorem Oth.refl (p : Addr) (C : AH) : Oth p C C := fun _ _ _ h => h
theorem Oth.trans {p : Addr} {C C1 C2 : AH} (a : Oth p C C1) (b : Oth p C1 C2) : Oth p C C2 := fun r c n h => b r c n (a r c n h)
theorem Oth.of {p : Addr} {C C' : AH} (a : Keep C C') : Oth p C C' := fun r c _ h => a r c h
theorem Oth.pen {p : Addr} {C C' : AH} {c : Cell} (h : Oth p C C') : Oth p C (AL.put C' p c) := fun r d n e => by rw [put_ne n]; exact h r d n e
theorem Oth.put {p q : Addr} {C C' : AH} {c : Cell} (h : Oth p C C') (hq : C q = none) : Oth p C (AL.put C' q c) := fun r d n e => by rw [put_ne (ne_cell e hq)]; exact h r d n e
theorem Oth.del {p q : Addr} {C C' : AH} (h : Oth p C C') (hq : C q = none) : Oth p C (AL.del C' q) := fun r d n e => by
  unfold AL.del
  rw [if_neg (ne_cell e hq)]
  exact h r d n e
theorem Oth.none {p q : Addr} {C C' : AH} (h : Oth p C C') (hn : q ≠ p) (hq : C' q = Option.none) : C q = Option.none := by
  cases e : C q with
  | none => rfl
  | some c => rw [h q c hn e] at hq; cases hq
end AL
namespace AL
open PySem PySem.Spec PyProof.Rows L2
section
variable {P : Program} {w : World} {K : PySem.W.Frag} {mg mb : Str → Option Value} {k : Nat} {fa a : Addr} {fd : FuncData} {x : Str} {sp : Sp} {s₁ : Shared} {vs : List Value} {ns : List Int}
theorem core_G (hns : s₁.heap.Ns mainGlobals mg) (hb : s₁.heap.Ns builtinsNs mb) (hbb : ∀ x : Str, x ≠ "__name__" → mb x = bootBuiltins x) (hlim : s₁.heap.NoLimit) (hg : s₁.gens = #[]) (KX : K.In s₁.heap)
    (ha : s₁.heap.get? a = some { cls := .type "list", data := .seq vs.toArray }) (hr : Room k callerA)
    (F : ∀ base : Heap, K.In base → base.Ns mainGlobals mg → FnG P w K mg base k fa fd [x] sp) (hbind : ∀ (s : Shared) (u : Value), BindsTo s fd ⟨[u], []⟩ [(x, u)])
    {H : Hp} (hO : Only H) (hsp : sp [.ref a] H (fun v _ => v = .bl true) fun _ _ _ => False) (hok : HOk P w H s₁.heap) (hA : ∀ b, H b ≠ none → b = a) (hK : H a ≠ none → K.lookup a = none) :
    codeAny (model P w) callerA (.call (.ref fa) ⟨[.ref a], []⟩) (fun r s' => r = .ok (.ret (.bool true)) ∧ OldK s₁.heap s'.heap ∧ s'.os = s₁.os ∧ AllBare s'.gens) s₁ := by
  have free : ∀ {b : Addr} {o : Obj}, s₁.heap.get? b = some o → (b = a → False) → H b = none := fun {b o} e n => by
    cases q : H b with
    | none => rfl
    | some u => exact (n (hA b (by rw [q]; simp))).elim
  have dictFree : ∀ {b : Addr} {m : Str → Option Value}, s₁.heap.Ns b m → (hidT s₁.heap H).Ns b m := by
    rintro b m ⟨o, es, ep, e, d, r⟩
    refine ⟨o, es, ep, hidT_get e (free e fun z => ?_), d, r⟩
    subst z
    rw [ha] at e
    cases e
    cases (show Data.seq vs.toArray _ = Data.dict es ep from d)
  have kin : K.In (hidT s₁.heap H) := fun b o e => hidT_get (KX b o e) (by
    cases q : H b with
    | none => rfl
    | some u =>
      have z : b = a := hA b (by rw [q]; simp)
      subst z
      rw [hK (by rw [q]; simp)] at e
      cases e)
  obtain ⟨mc, l1, l2⟩ := hlim
  have md : Mod K mg (hidT s₁.heap H) := ⟨kin, dictFree hns, ⟨mb, dictFree hb, hbb⟩, ⟨mc, dictFree l1, l2⟩⟩
  have e0 : Env0 P w K mg (hidT s₁.heap H) callerA [] s₁ H :=
    { frames := rfl, mod := md, bs := fun b o e => of_hidT e, bsz := Nat.le_of_eq (hidT_size _ _), funs := trivial, frf := fun b z => (by cases z), hok := hok, bare := .of_eq hg }
  refine codeAny_mono ((F _ kin (dictFree hns)).run callerA [] s₁ H ⟨[.ref a], []⟩ [.ref a] [.ref a] _ _ hr rfl e0 (hbind s₁ (.ref a)) (.cons rfl .nil) hsp) fun res s2 z => ?_
  match res, z with
  | .error e, z =>
    obtain ⟨_, _, _, _, _, _, _, _, _, _, _, _, z⟩ := z
    exact z.elim
  | .ok .next, z => exact False.elim z
  | .ok .brk, z => exact False.elim z
  | .ok .cont, z => exact False.elim z
  | .ok (.ret u), z =>
    obtain ⟨v, H2, os, bare, un, hok2, r, q⟩ := z
    cases (show v = .bl true from q)
    obtain rfl : u = Value.bool true := r
    refine ⟨rfl, OldK.of_keep fun b o e => ?_, os, bare⟩
    rcases hO b with z | ⟨ob, xs, z⟩
    · exact un.keep b o e z (by intro y; cases y) (by simp)
    · have e1 := (hok b _ z).1
      have e2 := (hok2 b _ (un.frzs b ob _ z)).1
      rw [e] at e1
      cases e1
      exact e2
theorem law_G (KX : K.In s₁.heap) (hns : s₁.heap.Ns mainGlobals mg) (hb : s₁.heap.Ns builtinsNs mb) (hbb : ∀ x : Str, x ≠ "__name__" → mb x = bootBuiltins x) (hlim : s₁.heap.NoLimit) (hg : s₁.gens = #[])
    (ha : s₁.heap.get? a = some { cls := .type "list", data := .seq vs.toArray }) (hi : IntsAre vs ns) (hl : ns.length ≤ sizeLine) (hr : Room k callerA)
    (F : ∀ base : Heap, K.In base → base.Ns mainGlobals mg → FnG P w K mg base k fa fd [x] sp) (hbind : ∀ (s : Shared) (u : Value), BindsTo s fd ⟨[u], []⟩ [(x, u)])
    (hsp : ∀ H : Hp, Only H → SqL K H a (ns.map V.int) → sp [.ref a] H (fun v _ => v = .bl true) fun _ _ _ => False) :
    codeAny (model P w) callerA (.call (.ref fa) ⟨[.ref a], []⟩) (fun r s' => r = .ok (.ret (.bool true)) ∧ OldK s₁.heap s'.heap ∧ s'.os = s₁.os ∧ AllBare s'.gens) s₁ := by
  have go := fun {H : Hp} (hO : Only H) (hS : SqL K H a (ns.map V.int)) => core_G hns hb hbb hlim hg KX ha hr F hbind hO (hsp H hO hS)
  cases hk : K.lookup a with
  | some o =>
    have e := KX a o hk
    rw [ha] at e
    cases e
    refine go (H := fun _ => none) (fun _ => .inl rfl) (.inr ⟨_, vs.toArray, _, hk, rfl, rfl, rfl, ?_, ?_⟩) (fun b u z => ?_) (fun b z => (z rfl).elim) fun z => (z rfl).elim
    · rw [List.size_toArray, hi.length]; exact hl
    · simpa using vals_ints hi
    · cases (show (none : Option HO) = some u from z)
  | none =>
    let oL : Obj := { cls := .type "list", data := .seq vs.toArray }
    let H0 : Hp := fun b => if b = a then some (.frz oL (.lst (ns.map V.int))) else none
    have at_a : H0 a = some (.frz oL (.lst (ns.map V.int))) := if_pos rfl
    have off : ∀ b, b ≠ a → H0 b = none := fun b n => if_neg n
    refine go (H := H0) (fun b => ?_) (.inl (.inr ⟨oL, at_a⟩)) (fun b u z => ?_) (fun b z => ?_) fun _ => hk
    · by_cases n : b = a
      · rw [n]; exact .inr ⟨_, _, at_a⟩
      · exact .inl (off b n)
    · by_cases n : b = a
      · subst n
        rw [at_a] at z
        cases z
        exact ⟨ha, by rw [List.length_map]; exact hl, vs, _, vals_ints hi, ha⟩
      · rw [off b n] at z; cases z
    · by_cases n : b = a
      · exact n
      · exact (z (off b n)).elim
end
theorem walk_G {l : PySem.W.OpenLaw} {n k : Nat} {q : Program} {loose : List Str} {XP : (Str → Option Value) → Heap → Prop} {YP : World → Heap → Prop} {d : DefRec} {K : Params → PySem.W.Frag} {sp : World → (Str → Option Value) → Sp} {x : Str}
    (hn : l.most = some n) (hn2 : n ≤ sizeLine) (hdf : d.params.defaults = []) (hr : Room k callerA) (hY : ∀ (w : World) (h : Heap), YP w h → (K w.params).In h)
    (F : ∀ (w : World) (mg : Str → Option Value) (fa : Addr) (h : Heap), (K w.params).In h → h.Ns mainGlobals mg → mg d.name = some (.ref fa) →
      ∃ fd : FuncData, (∀ (s : Shared) (u : Value), BindsTo s fd ⟨[u], []⟩ [(x, u)]) ∧ ∀ base : Heap, (K w.params).In base → base.Ns mainGlobals mg → FnG l.prog w (K w.params) mg base k fa fd [x] (sp w mg))
    (hsp : ∀ (w : World) (mg : Str → Option Value) (H : Hp) (a : Addr) (ns : List Int), ns.length ≤ n → Only H → SqL (K w.params) H a (ns.map V.int) → sp w mg [.ref a] H (fun v _ => v = .bl true) fun _ _ _ => False) :
    PySem.W.WalkO q loose XP YP l.row.toRowW d [] (fun f vs => PySem.call f vs) :=
  Att.attach_call hn hdf fun w s₀ s₁ mg mb fa o pm cd doc a vs ns G Y ho hd hcd hmg hobj hints hlen hg => by
    obtain ⟨fd, hb, hF⟩ := F w mg fa _ (hY w _ Y) G.T.g hmg
    exact law_G (hY w _ Y) G.T.g G.T.b G.T.builtins G.T.nolimit hg hobj hints (Nat.le_trans hlen hn2) hr hF hb fun H hO hS => hsp w mg H a ns hlen hO hS
end AL
namespace AL
open PySem PySem.Spec PyProof.Rows L2
variable {B : Bs}
section
variable {X : Cx} {K : PySem.W.Frag}
theorem u200 {k : Nat} {A : Around} (r : Room k A) : A.units + 200 < cLine := by
  have := r.un
  omega
def rRep (K : PySem.W.Frag) : List V → Hp → VK → Prop := fun xs H Q => ∃ x d, xs = [x] ∧ Dp K H x d ∧ d.showable = true ∧ d.hasDict = false ∧ d.depth ≤ 64 ∧ d.shown.length ≤ sizeLine ∧ Q (.str d.shown) H
end
end AL
namespace AL
open PySem PySem.Spec PyProof.Rows L2
variable {B : Bs}
mutual
def D.pe : D → Option PyData
  | .non => some .none
  | .bl b => some (.bool b)
  | .int i => some (.int i)
  | .str x => some (.str x)
  | .lst ds => (peL ds).map .list
  | .tup ds => (peL ds).map .tuple
  | .dk es => (peK es).map .dict
  | _ => none
def peL : List D → Option (List PyData)
  | [] => some []
  | d :: ds => match D.pe d, peL ds with | some x, some xs => some (x :: xs) | _, _ => none
def peK : List (Key × D) → Option (List (PyData × PyData))
  | [] => some []
  | (k, d) :: es => match D.pe d, peK es with | some x, some xs => some ((match k with | .inl i => PyData.int i | .inr z => PyData.str z, x) :: xs) | _, _ => none
end
section
variable {X : Cx} {K : PySem.W.Frag} {pins : List (Addr × Obj)} {σ : L2.St} {H F : Hp} {s : Shared}
/-- shown, one way or another -/
def Shw (X : Cx) (h : Heap) (u : Value) (x : PyData) : Prop := (∃ as, Reads h u x as) ∧ ∃ bs, ReadAtMost h x.depth bs ∧ ReprK X.prog X.w bs h x.depth u x.shown
def ShwL (X : Cx) (h : Heap) (us : List Value) (xs : List PyData) : Prop := (∃ as, ReadsAll h us xs as) ∧ ∃ bs, ReadAtMost h (PyData.depthAll xs) bs ∧ ReprAllK X.prog X.w bs h (PyData.depthAll xs) us (PyData.shownAll xs)
theorem ShwL.nil {h : Heap} : ShwL X h [] [] := ⟨⟨_, .nil⟩, [], fun _ z => (by cases z), by simp only [PyData.shownAll]; exact .nil⟩
theorem ShwL.cons {h : Heap} {u : Value} {us : List Value} {x : PyData} {xs : List PyData} (a : Shw X h u x) (b : ShwL X h us xs) : ShwL X h (u :: us) (x :: xs) := by
  obtain ⟨⟨_, r1⟩, b1, m1, k1⟩ := a
  obtain ⟨⟨_, r2⟩, b2, m2, k2⟩ := b
  have ed : PyData.depthAll (x :: xs) = max x.depth (PyData.depthAll xs) := by simp only [PyData.depthAll]
  refine ⟨⟨_, .cons r1 r2⟩, b1 ++ b2, ?_, ?_⟩
  · rw [ed]
    exact (m1.mono (Nat.le_max_left _ _)).append (m2.mono (Nat.le_max_right _ _))
  · rw [ed]
    simp only [PyData.shownAll]
    exact .cons ((k1.more fun z hz => List.mem_append_left _ hz).level_le (Nat.le_max_left _ _)) (k2.more_le (fun z hz => List.mem_append_right _ hz) (Nat.le_max_right _ _))
end
def blkKey : Key → Nat
  | .inl _ => 0
  | .inr x => x.length
mutual
def blk : D → Nat
  | .str x => x.length
  | .lst ds => blks ds
  | .tup ds => blks ds
  | .dk es => blkk es
  | _ => 0
def blks : List D → Nat
  | [] => 0
  | d :: ds => blk d + 1 + blks ds
def blkk : List (Key × D) → Nat
  | [] => 0
  | (k, d) :: es => blkKey k + blk d + 2 + blkk es
end
section
variable {X : Cx} {K : PySem.W.Frag}
/-- x is True -/
def aIsB (neg : Bool) : D → D → AH → (D → AH → Prop) → Prop := fun x y C P => match x, y with | .bl a, .bl b => P (.bl (if neg then !decide (a = b) else decide (a = b))) C | _, _ => False
abbrev aNotBl := aIsB true
theorem ao_isnotB : AOp B X (compareOp .IsNot) rNotB aNotBl := ⟨op_notBl, by
  intro v w d e F C R H Q P hS r1 r2 h k
  unfold aNotBl aIsB at h
  split at h
  · cases r1; cases r2
    exact ⟨_, _, rfl, rfl, k _ _ F C H (Ex.refl F) hS (.bl _) h⟩
  · exact h.elim⟩
def aDict0F : AE' := fun _ C P => P (.dk []) C
theorem ae_dict0F {pos : Pos} : AE B X (.Dict [] [] pos) tDNewK aDict0F := ⟨pe_dnewK, fun σ s F C R H Q P hs hS h k p hp => by
  have eN := Ex.new (o := .dK []) (hS.freeF hp)
  exact k _ _ _ C _ eN (hS.newF hp _) (.dk upd_same .nil) h⟩
end
end AL
namespace AL
open PySem PySem.Spec PyProof.Rows L2
end AL
namespace AL
open PySem PySem.Spec PyProof.Rows L2
end AL
namespace AL
open PySem PySem.Spec PyProof.Rows L2
variable {B : Bs}
inductive Src where
  | ls (a : Addr) | tp (a : Addr) | tx (z : Str)
def Src.holds (K : PySem.W.Frag) (H : Hp) : Src → List V → Prop
  | .ls a, xs => SqL K H a xs
  | .tp a, xs => SqT K H a xs
  | .tx z, xs => xs = signsV z
def Src.ref : Src → Option Addr
  | .ls a => some a
  | .tp a => some a
  | .tx _ => none
section
variable {X : Cx} {pins : List (Addr × Obj)} {σ : L2.St} {H : Hp} {s : Shared}
theorem Src.inj (I : Inv X pins σ H s) : ∀ {x : Src} {xs ys : List V}, x.holds X.K H xs → x.holds X.K H ys → xs = ys
  | .ls a, _, _, h, g => I.list_inj h g
  | .tp a, _, _, h, g => I.tuple_inj h g
  | .tx z, _, _, h, g => h.trans g.symm
end
end AL
namespace AL
open PySem PySem.Spec PyProof.Rows L2
end AL
namespace AL
open PySem PySem.Spec PyProof.Rows L2
end AL
namespace AL
open PySem PySem.Spec PyProof.Rows L2
end AL
namespace AL
open PySem PySem.Spec PyProof.Rows L2
end AL
namespace AL
open PySem PySem.Spec PyProof.Rows L2
variable {B : Bs}
def ddS (σ : List Str) (v : Str) : List Str := if σ.any (· == v) then σ else σ ++ [v]
def dd (xs : List Str) : List Str := xs.foldl ddS []
/-- the signs of a text, as texts -/
def sgS (z : Str) : List Str := z.cps.toList.map fun c => ⟨#[c]⟩
section
variable {prog : Program} {w : World} {A : Around} {R : Result → Shared → Prop} {I : Addr} {fp wr : List Addr} {G : Array GenState → Array GenState → Prop} {n : Nat} {P : Nat → Value → Prop} {St : Nat → Shared → Prop}
abbrev SetS (prog : Program) (w : World) (h : Heap) (S : Addr) (xs : List Str) : Prop := h.SetOf (PySem.strKind prog w) S (fun k => (dd xs).any (· == k)) (dd xs).length
theorem SetS.keep {h h' : Heap} {S : Addr} {xs : List Str} (q : SetS prog w h S xs) (hk : ∀ o, h.get? S = some o → h'.get? S = some o) : SetS prog w h' S xs := by
  obtain ⟨o, es, ep, t, ho, r⟩ := q
  exact ⟨o, es, ep, t, hk _ ho, r⟩
end
end AL
namespace AL
open PySem PySem.Spec PyProof.Rows L2
variable {B : Bs}
section
variable {X : Cx} {K : PySem.W.Frag}
def aLenSet (a : AE') : AE' := fun s C P => a s C fun x C1 => match x with | .str z => z.length ≤ 4000 ∧ P (.int (dd (sgS z)).length) C1 | _ => False
end
section
variable {C : AH} {P : D → AH → Prop} {s : ASt} {e : AE'}
def kLenSet (P : D → AH → Prop) : D → AH → Prop := fun x C1 => match x with | .str z => z.length ≤ 4000 ∧ P (.int (dd (sgS z)).length) C1 | _ => False
theorem g_lenSet (h : e s C (kLenSet P)) : aLenSet e s C P := h
end
end AL
namespace AL
open PySem PySem.Spec PyProof.Rows L2
variable {B : Bs}
def tabAt : List (Str × Int) → Str → Option Int
  | [], _ => none
  | (x, i) :: q, z => if x = z then some i else tabAt q z
section
variable {X : Cx} {K : PySem.W.Frag} {x : Str} {d : Addr} {tab : List (Str × Int)} {e : Expr} {te : TE} {a : AE'} {p pos : Pos}
def aInTab (tab : List (Str × Int)) (neg : Bool) (a : AE') : AE' := fun s C P => a s C fun x C1 => match x with | .str z => P (.bl (if neg then !(tabAt tab z).isSome else (tabAt tab z).isSome)) C1 | _ => False
def aIxTab (tab : List (Str × Int)) (a : AE') : AE' := fun s C P => a s C fun x C1 => match x with | .str z => (match tabAt tab z with | some i => P (.int i) C1 | none => False) | _ => False
end
section
variable {C : AH} {P : D → AH → Prop} {s : ASt} {e : AE'} {tab : List (Str × Int)}
def kInTab (tab : List (Str × Int)) (neg : Bool) (P : D → AH → Prop) : D → AH → Prop := fun x C1 => match x with | .str z => P (.bl (if neg then !(tabAt tab z).isSome else (tabAt tab z).isSome)) C1 | _ => False
def kIxTab (tab : List (Str × Int)) (P : D → AH → Prop) : D → AH → Prop := fun x C1 => match x with | .str z => (match tabAt tab z with | some i => P (.int i) C1 | none => False) | _ => False
theorem g_inTab {neg : Bool} (h : e s C (kInTab tab neg P)) : aInTab tab neg e s C P := h
theorem g_kInTab {z : Str} (h : P (.bl (tabAt tab z).isSome) C) : kInTab tab false P (.str z) C := h
theorem g_kNotInTab {z : Str} (h : P (.bl (!(tabAt tab z).isSome)) C) : kInTab tab true P (.str z) C := h
theorem g_ixTab (h : e s C (kIxTab tab P)) : aIxTab tab e s C P := h
end
end AL
namespace AL
open PySem PySem.Spec PyProof.Rows L2
variable {B : Bs}
section
variable {X : Cx} {K : PySem.W.Frag}
/-- the right side is [] -/
def aEqNil (neg : Bool) : D → D → AH → (D → AH → Prop) → Prop := fun x y C P => match asLr C x, y with
  | some us, .lst [] => P (.bl (if neg then !us.isEmpty else us.isEmpty)) C
  | _, _ => False
end
section
variable {C : AH} {P : D → AH → Prop}
theorem g_eqNil {us : List D} (h : P (.bl us.isEmpty) C) : aEqNil false (.lst us) (.lst []) C P := h
theorem g_neNil {us : List D} (h : P (.bl (!us.isEmpty)) C) : aEqNil true (.lst us) (.lst []) C P := h
end
section
variable {C : AH} {P : D → AH → Prop} {s : ASt} {a b c : AE'} {r r' : D → D → AH → (D → AH → Prop) → Prop}
def kChain (r' : D → D → AH → (D → AH → Prop) → Prop) (c : AE') (y : D) (s : ASt) (P : D → AH → Prop) : D → AH → Prop := fun z C3 => match z with
  | .bl true => c s C3 fun w C4 => r' y w C4 P
  | .bl false => P (.bl false) C3
  | _ => False
theorem g_chain (h : a s C fun x C1 => b s C1 fun y C2 => r x y C2 (kChain r' c y s P)) : aChain r r' a b c s C P := h
theorem g_kChain {y : D} {k : Bool} (h1 : k = true → c s C fun w C4 => r' y w C4 P) (h2 : k = false → P (.bl false) C) : kChain r' c y s P (.bl k) C := by
  cases k
  · exact h2 rfl
  · exact h1 rfl
end
end AL
namespace AL
open PySem PySem.Spec PyProof.Rows L2
end AL
namespace AL
open PySem PySem.Spec PyProof.Rows L2
end AL
namespace AL
open PySem PySem.Spec PyProof.Rows L2
variable {B : Bs}
section
variable {X : Cx} {K : PySem.W.Frag}
theorem RepK.keys {F : Hp} : ∀ {kvs : List (Key × V)} {es : List (Key × D)}, RepK K F kvs es → kvs.map (·.1) = es.map (·.1)
  | _, _, .nil => rfl
  | _, _, .cons _ t => by rw [List.map_cons, List.map_cons, RepK.keys t]
theorem RepL.times {F : Hp} {xs : List V} {ds : List D} (r : RepL K F xs ds) : ∀ n, RepL K F (List.replicate n xs).flatten (List.replicate n ds).flatten
  | 0 => .nil
  | n + 1 => by
    rw [List.replicate_succ, List.replicate_succ, List.flatten_cons, List.flatten_cons]
    exact r.append (RepL.times r n)
def aRepL (m : Bool) : D → D → AH → (D → AH → Prop) → Prop := fun x y C P => match y with
  | .int k => ∃ ds, asL C x = some ds ∧ -(2 ^ 63) ≤ k ∧ k < 2 ^ 63 ∧ ds.length * k.toNat ≤ sizeLine ∧ if m then ∀ p, C p = none → P (.ce p) (put C p (.lst (List.replicate k.toNat ds).flatten)) else P (.lst (List.replicate k.toNat ds).flatten) C
  | _ => False
theorem ao_repL {m : Bool} : AOp B X (binaryOp .Mult) L2.rRep (aRepL m) := ⟨op_rep, by
  intro v w d e F C R H Q P hS r1 r2 h k
  unfold aRepL at h
  split at h
  · rename_i y0 kk
    cases r2
    obtain ⟨ds, h1, h2, h3, h4, h5⟩ := h
    obtain ⟨a, xs, rfl, g1, g2⟩ := asL_ok hS r1 h1
    refine ⟨a, _, xs, rfl, rfl, g1, h2, h3, by rw [g2.length]; exact h4, fun p hp => ?_⟩
    have g3 := g2.times
    cases m with
    | true => exact k _ _ _ _ _ (Ex.refl F) (hS.newC hp (.lst (g3 _))) (.ce p) (h5 p (hS.freeC hp))
    | false =>
      have e : Ex F (upd F p (.lst (List.replicate kk.toNat xs).flatten)) := Ex.new (hS.freeF hp)
      exact k _ _ _ C _ e (hS.newF hp _) (.lst upd_same ((g3 _).mono e)) h5
  · exact h.elim⟩
end
end AL
namespace AL
open PySem PySem.Spec PyProof.Rows L2
end AL
namespace AL
open PySem L2
def nk (n : Nat) : Key := .inl (n : Int)
theorem nk_inj {a b : Nat} (h : nk a = nk b) : a = b := by have := Sum.inl.inj h; omega
def Ky (es : List (Key × D)) (L : List Nat) : Prop := es.map (·.1) = L.map nk
def addN (L : List Nat) (n : Nat) : List Nat := if n ∈ L then L else L ++ [n]
theorem Ky.nil : Ky [] [] := rfl
theorem Ky.len {es : List (Key × D)} {L : List Nat} (h : Ky es L) : es.length = L.length := by
  have := congrArg List.length h
  simpa using this
theorem Ky.any {es : List (Key × D)} {L : List Nat} (h : Ky es L) (n : Nat) : (es.any fun kv => decide (kv.1 = nk n)) = decide (n ∈ L) := by
  have e : (es.any fun kv => decide (kv.1 = nk n)) = (es.map (·.1)).any fun k => decide (k = nk n) := by rw [List.any_map]; rfl
  rw [e, show es.map (·.1) = L.map nk from h, List.any_map, Bool.eq_iff_iff, List.any_eq_true, decide_eq_true_iff]
  constructor
  · rintro ⟨m, hm, e⟩
    have := nk_inj (of_decide_eq_true e)
    rw [← this]; exact hm
  · intro hm
    exact ⟨n, hm, decide_eq_true rfl⟩
theorem Ky.val {es : List (Key × D)} {L : List Nat} (h : Ky es L) (n : Nat) : (valD es (nk n)).isSome = decide (n ∈ L) := by
  rw [← h.any n]
  unfold valD
  rw [Option.isSome_map, Bool.eq_iff_iff, List.find?_isSome, List.any_eq_true]
theorem Ky.put {es : List (Key × D)} {L : List Nat} {d : D} (h : Ky es L) (n : Nat) : Ky (putD es (nk n) d) (addN L n) := by
  unfold putD addN
  rw [h.any]
  by_cases hn : n ∈ L
  · rw [decide_eq_true hn, if_pos rfl, if_pos hn]
    show (es.map _).map _ = _
    rw [List.map_map]
    have e : ((fun kv : Key × D => kv.1) ∘ fun kv : Key × D => if kv.1 = nk n then (kv.1, d) else kv) = fun kv => kv.1 := by
      funext kv
      simp only [Function.comp]
      split <;> rfl
    rw [e]
    exact h
  · rw [decide_eq_false hn, if_neg (by decide), if_neg hn]
    show (es ++ [_]).map _ = _
    rw [List.map_append, List.map_append, show es.map (·.1) = L.map nk from h]
    rfl
theorem nodup_addN {L : List Nat} {n : Nat} (h : L.Nodup) : (addN L n).Nodup := by
  unfold addN
  split
  · exact h
  · rename_i hn
    refine List.nodup_append.mpr ⟨h, by simp, ?_⟩
    intro a ha b hb e
    have : b = n := by simpa using hb
    exact hn (by rw [← this, ← e]; exact ha)
end AL
namespace AL
open PySem PySem.Spec PyProof.Rows L2
open AutoSeq1 (wpAny_loadPart')
end AL
namespace AL
open PySem PySem.Spec PyProof.Rows L2
variable {B : Bs}
/-- flat things, truths and numbers in any mix -/
def eqF : D → D → Option Bool
  | .bl i, .int j => some ((if i then 1 else 0) == j)
  | .int i, .bl j => some (i == (if j then 1 else 0))
  | d, e => eqS d e
def isF : D → Bool
  | .non | .bl _ | .int _ | .str _ => true
  | _ => false
inductive EqD : Nat → D → D → Bool → Prop
  | flat {n : Nat} {d e : D} {b : Bool} : eqF d e = some b → EqD n d e b
  | lsts {n : Nat} {us ws : List D} {e : Nat → Bool} : us.length = ws.length → (∀ j (h1 : j < us.length) (h2 : j < ws.length), EqD n us[j] ws[j] (e j)) → EqD (n + 1) (.lst us) (.lst ws) ((List.range us.length).all e)
  | lstsN {n : Nat} {us ws : List D} : us.length ≠ ws.length → EqD (n + 1) (.lst us) (.lst ws) false
  | tups {n : Nat} {us ws : List D} {e : Nat → Bool} : (∀ j (h1 : j < us.length) (h2 : j < ws.length), EqD n us[j] ws[j] (e j)) → EqD (n + 1) (.tup us) (.tup ws) ((List.range (min us.length ws.length)).all e && us.length == ws.length)
  | lstF {n : Nat} {us : List D} {d : D} : isF d = true → EqD (n + 1) (.lst us) d false
  | tupF {n : Nat} {us : List D} {d : D} : isF d = true → EqD (n + 1) (.tup us) d false
  | fLst {n : Nat} {us : List D} {d : D} : isF d = true → EqD (n + 1) d (.lst us) false
  | fTup {n : Nat} {us : List D} {d : D} : isF d = true → EqD (n + 1) d (.tup us) false
  | lstTup {n : Nat} {us ws : List D} : EqD (n + 1) (.lst us) (.tup ws) false
  | tupLst {n : Nat} {us ws : List D} : EqD (n + 1) (.tup us) (.lst ws) false
  | dk0 {n : Nat} : EqD (n + 1) (.dk []) (.dk []) true
  | dkBl {n : Nat} {b : Bool} : EqD (n + 1) (.dk []) (.bl b) false
section
variable {A : Around} {s : Shared}
/-- an empty dict, by any program's look -/
def Dic0 (h : Heap) (a : Addr) : Prop := (a == sysModules) = false ∧ ∀ (prog : Program) (w : World), h.DictOf (mixKind prog w) a []
theorem dic0_of {P : Program} {w : World} {H : Hp} {h : Heap} {a : Addr} (ok : ObjOk P w H h a (.dK [])) : Dic0 h a := by
  obtain ⟨_, ys, va, ra, o, es, ep, ho, hx, hd, hk, hp, hn⟩ := ok
  unfold KV at ra
  cases ra
  have e0 : es.toList.length = 0 := hp.length
  have e1 : es = #[] := by
    apply Array.toList_inj.mp
    exact List.length_eq_zero_iff.mp e0
  subst e1
  refine ⟨ys, fun prog w' => ⟨o, #[], ep, ho, hx, hd, fun e he => absurd he (by simp), .nil, List.nodup_nil⟩⟩
theorem rc_dic {a b : Addr} (ha : Dic0 s.heap a) (hb : Dic0 s.heap b) (hu : A.units < cLine) : SeqAt.RcAt A s (.ref a) (.ref b) true := fun prog w E Q q =>
  PySem.W.rcP_dicts (knd := mixKind prog w) (r := true) ha.1 hb.1 (ha.2 prog w) (hb.2 prog w) hu (fun _ => .nil) E Q q
theorem eq_dic {a b : Addr} (ha : Dic0 s.heap a) (hb : Dic0 s.heap b) (hu : A.units < cLine) : SeqAt.EqAt A s (.ref a) (.ref b) true := by
  by_cases e : a = b
  · subst e; exact SeqAt.EqAt.same _
  · exact SeqAt.EqAt.of_refs e (rc_dic ha hb hu)
open AutoSeq1 (wpAny_loadPart') in
theorem int_declines_dic (c : Bool) (a : Addr) (cl : Value) (dd : Option Addr) (es : Array DictEntry) (ep : Nat) (sl : Array (Option Value)) : Meets (Builtin.«int.__eq__» ⟨[.bool c, .ref a], []⟩) (fun _ R s => s.heap.get? a = some { cls := cl, dict := dd, data := .dict es ep, slots := sl } ∧ R (.ok (.ret .notImplemented)) s) :=
  .of_wp fun prog w A R s h => by
    obtain ⟨hp, g, d, tk, os⟩ := s
    obtain ⟨hl, h⟩ := h
    wp_walk using wpAny_loadPart' hl, wpAny_load hl
    exact ⟨_, rfl, h⟩
open AutoSeq1 (wpAny_loadPart') in
theorem dict_declines_bool (c : Bool) (a : Addr) : Meets (Builtin.«dict.__eq__» ⟨[.ref a, .bool c], []⟩) (fun _ R s => s.TypeIs (.ref a) "dict" ∧ R (.ok (.ret .notImplemented)) s) :=
  .of_wp fun prog w A R s h => by
    obtain ⟨ht, h⟩ := h
    have f1 := F.sub_bool_dict
    show wpAny _ _ (Builtin.Dict.dictSlotArgs "__eq__" ⟨[.ref a, .bool c], []⟩ >>= _) _ _ s
    refine wpAny_bind ?_
    unfold Builtin.Dict.dictSlotArgs
    refine wpAny_bind (wpAny_notOrdered_dict ht ?_)
    show wpAny _ _ (pure (Value.ref a, Value.bool c)) _ _ s
    refine wpAny_pure ?_
    refine wpAny_bind (wpAny_isInstance (v := .bool c) (T := "bool") rfl F.sub_bool_dict ?_)
    simp only [Bool.not_false, if_true]
    refine wpAny_bind (wpAny_rule ?_)
    exact wpAny_bind (wpAny_pure (wpAny_pure ⟨_, rfl, h⟩))
theorem dic_bool {a : Addr} (b : Bool) (ha : Dic0 s.heap a) (hu : A.units < cLine) : SeqAt.EqAt A s (.ref a) (.bool b) false := fun prog w E Q h => by
  obtain ⟨o, es, ep, ho, hx, hd, _⟩ := ha.2 prog w
  have ht : s.TypeIs (.ref a) "dict" := (ha.2 prog w).typeIs
  obtain ⟨cl, dd, data, sl⟩ := o
  simp only at hd
  subst hd
  unfold eqBool
  refine wpAny_holding ?_
  refine wpAny_ite_split (fun hab => absurd (eq_of_beq hab) nofun) (fun _ => ?_)
  refine wpAny_bind ?_
  exact SeqAt.rc_eq_decline_or (k := false) ht rfl (by decide) F.sub_bool_dict F.slot_dict_eq F.slot_bool_eq_refl
    (fun _ hq => call_meets F.slot_dict_eq ht F.entry_dict_eq (F.args_dict_eq_2 _ _) (dict_declines_bool b a) ⟨ht, hq⟩)
    (fun _ hq => call_meets F.slot_bool_eq_refl rfl F.entry_int_eq (F.args_int_eq_2 _ _) (int_declines_dic b a cl dd es ep sl) ⟨ho, hq⟩)
    (fun _ hq => wpAny_of_eq (rfl : isSame (.ref a) (.bool b) = pure false) hq) (.inr hu) (wpAny_truthy_bool h)
end
section
variable {X : Cx} {K : PySem.W.Frag}
theorem dec_beq {α : Type} [DecidableEq α] [BEq α] [LawfulBEq α] (a b : α) : decide (a = b) = (a == b) := by
  rw [Bool.eq_iff_iff]; simp
theorem rv_non {u : Value} (h : L2.RelV .non u) : u = .none := h
theorem rv_bl {b : Bool} {u : Value} (h : L2.RelV (.bl b) u) : u = .bool b := h
theorem rv_int {i : Int} {u : Value} (h : L2.RelV (.int i) u) : ∃ t, u = .int i t := h
theorem rv_str {i : Str} {u : Value} (h : L2.RelV (.str i) u) : ∃ t, u = .str i t := h
theorem eqF_at {A : Around} {s : Shared} {F : Hp} {v w : V} {x y : Value} {d e : D} {b : Bool} (r1 : Rep K F v d) (r2 : Rep K F w e) (rx : RelV v x) (ry : RelV w y) (h : eqF d e = some b) : SeqAt.EqAt A s x y b := by
  unfold eqF at h
  split at h
  · cases r1; cases r2; cases h; cases rx
    obtain ⟨t, rfl⟩ := ry
    exact SeqAt.EqAt.bool_int _ _ _
  · cases r1; cases r2; cases h; cases ry
    obtain ⟨t, rfl⟩ := rx
    exact SeqAt.EqAt.int_bool _ _ _
  · unfold eqS at h
    split at h
    · cases r1; cases r2; cases h; obtain rfl := rv_non rx; obtain rfl := rv_non ry; exact SeqAt.EqAt.same _
    · cases r1; cases r2; cases h; obtain rfl := rv_non rx; obtain ⟨t2, rfl⟩ := rv_int ry; exact SeqAt.EqAt.none_int _ _
    · cases r1; cases r2; cases h; obtain ⟨t, rfl⟩ := rv_int rx; obtain rfl := rv_non ry; exact SeqAt.EqAt.int_none _ _
    · cases r1; cases r2; cases h; obtain rfl := rv_non rx; obtain rfl := rv_bl ry; exact SeqAt.EqAt.none_bool _
    · cases r1; cases r2; cases h; obtain rfl := rv_bl rx; obtain rfl := rv_non ry; exact SeqAt.EqAt.bool_none _
    · cases r1; cases r2; cases h; obtain rfl := rv_non rx; obtain ⟨t2, rfl⟩ := rv_str ry; exact SeqAt.EqAt.none_str _ _
    · cases r1; cases r2; cases h; obtain ⟨t, rfl⟩ := rv_str rx; obtain rfl := rv_non ry; exact SeqAt.EqAt.str_none _ _
    · cases r1; cases r2; cases h; obtain ⟨t, rfl⟩ := rv_int rx; obtain ⟨t2, rfl⟩ := rv_int ry; rw [dec_beq]; exact SeqAt.EqAt.int_int _ _ _ _
    · cases r1; cases r2; cases h; obtain rfl := rv_bl rx; obtain rfl := rv_bl ry; rw [dec_beq]; exact SeqAt.EqAt.bool_bool _ _
    · cases r1; cases r2; cases h; obtain ⟨t, rfl⟩ := rv_str rx; obtain ⟨t2, rfl⟩ := rv_str ry; rw [dec_beq]; exact SeqAt.EqAt.str_str _ _ _ _
    · cases r1; cases r2; cases h; obtain ⟨t, rfl⟩ := rv_int rx; obtain ⟨t2, rfl⟩ := rv_str ry; exact SeqAt.EqAt.int_str _ _ _ _
    · cases r1; cases r2; cases h; obtain ⟨t, rfl⟩ := rv_str rx; obtain ⟨t2, rfl⟩ := rv_int ry; exact SeqAt.EqAt.str_int _ _ _ _
    · cases r1; cases r2; cases h; obtain rfl := rv_bl rx; obtain ⟨t2, rfl⟩ := rv_str ry; exact SeqAt.EqAt.bool_str _ _ _
    · cases r1; cases r2; cases h; obtain ⟨t, rfl⟩ := rv_str rx; obtain rfl := rv_bl ry; exact SeqAt.EqAt.str_bool _ _ _
    · cases h
theorem vals_at {vs : List V} {us : List Value} (r : L2.Vals vs us) : ∀ {j : Nat} {v : V}, vs[j]? = some v → ∃ u, us[j]? = some u ∧ L2.RelV v u := by
  induction r with
  | nil => intro j v e; simp at e
  | cons h t ih =>
    intro j v e
    cases j with
    | zero => simp at e; subst e; exact ⟨_, rfl, h⟩
    | succ j => simpa using ih (by simpa using e)
theorem items_at {A : Around} {s : Shared} {F : Hp} {us ws : List D} {vs ys : List V} {xs zs : List Value} {e : Nat → Bool} (r1 : RepL K F vs us) (r2 : RepL K F ys ws) (q1 : L2.Vals vs xs) (q2 : L2.Vals ys zs)
    (h : ∀ j (h1 : j < us.length) (h2 : j < ws.length) (v w : V) (x y : Value), Rep K F v us[j] → Rep K F w ws[j] → L2.RelV v x → L2.RelV w y → SeqAt.EqAt A s x y (e j)) :
    ∀ j (h1 : j < xs.toArray.size) (h2 : j < zs.toArray.size), SeqAt.EqAt A s xs.toArray[j] zs.toArray[j] (e j) := by
  intro j h1 h2
  have l1 : j < us.length := by rw [← r1.length, q1.length]; simpa using h1
  have l2 : j < ws.length := by rw [← r2.length, q2.length]; simpa using h2
  obtain ⟨v, e1, g1⟩ := r1.getD (List.getElem?_eq_getElem l1)
  obtain ⟨w, e2, g2⟩ := r2.getD (List.getElem?_eq_getElem l2)
  obtain ⟨x, f1, k1⟩ := vals_at q1 e1
  obtain ⟨y, f2, k2⟩ := vals_at q2 e2
  have := h j l1 l2 v w x y g1 g2 k1 k2
  rw [List.getElem?_eq_some_iff] at f1 f2
  obtain ⟨_, f1⟩ := f1
  obtain ⟨_, f2⟩ := f2
  simpa [f1, f2] using this
theorem flat_at {F : Hp} {v : V} {d : D} {x : Value} (r : Rep K F v d) (rx : L2.RelV v x) (h : isF d = true) : x = .none ∨ (∃ b, x = .bool b) ∨ (∃ i t, x = .int i t) ∨ ∃ z t, x = .str z t := by
  cases r <;> first | (cases h; done) | skip
  · exact .inl rx
  · exact .inr (.inl ⟨_, rx⟩)
  · obtain ⟨t, e⟩ := rv_int rx; exact .inr (.inr (.inl ⟨_, t, e⟩))
  · obtain ⟨t, e⟩ := rv_str rx; exact .inr (.inr (.inr ⟨_, t, e⟩))
variable {pins : List (Addr × Obj)} {σ : L2.St} {H : Hp} {s : Shared}
theorem tup_is (I : Inv X pins σ H s) {F : Hp} (e : Ex F H) {a : Addr} {xs : List V} (h : Rd F a (.tup xs)) : ∃ us, L2.Vals xs us ∧ s.heap.IsTuple a us.toArray := by
  obtain ⟨its, r, g, _⟩ := I.tuple (SqT.of (K := X.K) (rdUp h e))
  exact ⟨its, r, g⟩
theorem lst_is (I : Inv X pins σ H s) {F : Hp} (e : Ex F H) {a : Addr} {xs : List V} (h : F a = some (.lst xs)) : ∃ us, L2.Vals xs us ∧ s.heap.IsList a us.toArray := by
  obtain ⟨its, r, g, _⟩ := I.list (SqL.of (e _ _ h))
  exact ⟨its, r, g.isList⟩
theorem eqD_same {K : PySem.W.Frag} {F : Hp} {n : Nat} {d e : D} {b : Bool} (t : EqD n d e b) : ∀ (v : V), Rep K F v d → Rep K F v e → b = true := by
  induction t with
  | flat h =>
    intro v r1 r2
    unfold eqF at h
    split at h
    · cases r1; cases r2
    · cases r1; cases r2
    · unfold eqS at h
      split at h <;> cases r1 <;> cases r2 <;> cases h <;> first | rfl | exact decide_eq_true rfl
  | lsts hl _ ih =>
    intro v r1 r2
    cases r1 with
    | lst h1 g1 => cases r2 with
      | lst h2 g2 =>
        cases h1.symm.trans h2
        refine List.all_eq_true.mpr fun j hj => ?_
        have hj := List.mem_range.mp hj
        obtain ⟨v, e1, q1⟩ := g1.getD (List.getElem?_eq_getElem hj)
        obtain ⟨w, e2, q2⟩ := g2.getD (List.getElem?_eq_getElem (hl ▸ hj))
        cases e1.symm.trans e2
        exact ih j hj (hl ▸ hj) v q1 q2
  | lstsN hl =>
    intro v r1 r2
    cases r1 with
    | lst h1 g1 => cases r2 with
      | lst h2 g2 =>
        cases h1.symm.trans h2
        exact absurd (g1.length.symm.trans g2.length) hl
  | tups _ ih =>
    intro v r1 r2
    cases r1 with
    | tup h1 g1 => cases r2 with
      | tup h2 g2 =>
        cases rdInj h1.1 h2.1
        have hl := g1.length.symm.trans g2.length
        rw [Bool.and_eq_true]
        refine ⟨List.all_eq_true.mpr fun j hj => ?_, by simp [hl]⟩
        have hj := List.mem_range.mp hj
        have k1 : j < _ := Nat.lt_of_lt_of_le hj (Nat.min_le_left _ _)
        have k2 : j < _ := Nat.lt_of_lt_of_le hj (Nat.min_le_right _ _)
        obtain ⟨v, e1, q1⟩ := g1.getD (List.getElem?_eq_getElem k1)
        obtain ⟨w, e2, q2⟩ := g2.getD (List.getElem?_eq_getElem k2)
        cases e1.symm.trans e2
        exact ih j k1 k2 v q1 q2
  | lstF h => intro v r1 r2; cases r1 <;> cases r2 <;> cases h
  | tupF h => intro v r1 r2; cases r1 <;> cases r2 <;> cases h
  | fLst h => intro v r1 r2; cases r1 <;> cases r2 <;> cases h
  | fTup h => intro v r1 r2; cases r1 <;> cases r2 <;> cases h
  | lstTup =>
    intro v r1 r2
    cases r1 with
    | lst h1 g1 => cases r2 with
      | tup h2 g2 => rcases h2.1 with h2 | ⟨o, h2⟩ <;> cases h1.symm.trans h2
  | tupLst =>
    intro v r1 r2
    cases r1 with
    | tup h1 g1 => cases r2 with
      | lst h2 g2 => rcases h1.1 with h1 | ⟨o, h1⟩ <;> cases h1.symm.trans h2
  | dk0 => intro v r1 r2; rfl
  | dkBl => intro v r1 r2; cases r1 <;> cases r2
/-- the items of two lists or tuples, told apart -/
def Items (A : Around) (s : Shared) (l1 l2 : Nat) (e : Nat → Bool) (xs zs : Array Value) : Prop := xs.size = l1 ∧ zs.size = l2 ∧ ∀ j (h1 : j < xs.size) (h2 : j < zs.size), SeqAt.EqAt A s xs[j] zs[j] (e j)
theorem both_lst (I : Inv X pins σ H s) {F : Hp} (eF : Ex F H) {us ws : List D} {A : Around} {e : Nat → Bool} {a b : Addr} {vs ys : List V} (h1 : F a = some (.lst vs)) (h2 : F b = some (.lst ys)) (g1 : RepL X.K F vs us) (g2 : RepL X.K F ys ws)
    (ih : ∀ j (h1 : j < us.length) (h2 : j < ws.length) (v w : V) (x y : Value), Rep X.K F v us[j] → Rep X.K F w ws[j] → L2.RelV v x → L2.RelV w y → SeqAt.EqAt A s x y (e j)) :
    ∃ xs zs, s.heap.IsList a xs ∧ s.heap.IsList b zs ∧ Items A s us.length ws.length e xs zs := by
  obtain ⟨xs, q1, p1⟩ := lst_is I eF h1
  obtain ⟨ys, q2, p2⟩ := lst_is I eF h2
  exact ⟨_, _, p1, p2, by rw [List.size_toArray, ← q1.length, g1.length], by rw [List.size_toArray, ← q2.length, g2.length], items_at g1 g2 q1 q2 ih⟩
theorem both_tup (I : Inv X pins σ H s) {F : Hp} (eF : Ex F H) {us ws us' ws' : List D} {A : Around} {e : Nat → Bool} {a b : Addr} {vs ys : List V} (h1 : TupS F a vs us') (h2 : TupS F b ys ws') (g1 : RepL X.K F vs us) (g2 : RepL X.K F ys ws)
    (ih : ∀ j (h1 : j < us.length) (h2 : j < ws.length) (v w : V) (x y : Value), Rep X.K F v us[j] → Rep X.K F w ws[j] → L2.RelV v x → L2.RelV w y → SeqAt.EqAt A s x y (e j)) :
    ∃ xs zs, s.heap.IsTuple a xs ∧ s.heap.IsTuple b zs ∧ Items A s us.length ws.length e xs zs := by
  obtain ⟨xs, q1, p1⟩ := tup_is I eF h1.1
  obtain ⟨ys, q2, p2⟩ := tup_is I eF h2.1
  exact ⟨_, _, p1, p2, by rw [List.size_toArray, ← q1.length, g1.length], by rw [List.size_toArray, ← q2.length, g2.length], items_at g1 g2 q1 q2 ih⟩
theorem one_lst (I : Inv X pins σ H s) {F : Hp} (eF : Ex F H) {a : Addr} {vs : List V} (h1 : F a = some (.lst vs)) : ∃ xs, s.heap.IsList a xs := by
  obtain ⟨xs, q1, p1⟩ := lst_is I eF h1
  exact ⟨_, p1⟩
theorem one_tup (I : Inv X pins σ H s) {F : Hp} (eF : Ex F H) {a : Addr} {vs : List V} {us' : List D} (h1 : TupS F a vs us') : ∃ xs, s.heap.IsTuple a xs := by
  obtain ⟨xs, q1, p1⟩ := tup_is I eF h1.1
  exact ⟨_, p1⟩
/-- what a comparision of trees tells, an item's -/
theorem eqD_at (I : Inv X pins σ H s) {F : Hp} (eF : Ex F H) {n : Nat} {d e : D} {b : Bool} (t : EqD n d e b) : ∀ (A : Around), A.units + n < cLine → ∀ (v w : V) (x y : Value), Rep X.K F v d → Rep X.K F w e → L2.RelV v x → L2.RelV w y → SeqAt.EqAt A s x y b := by
  induction t with
  | flat h => intro A hu v w x y r1 r2 rx ry; exact eqF_at r1 r2 rx ry h
  | lsts hl hh ih =>
    intro A hu v w x y r1 r2 rx ry
    by_cases ne : v = w
    · subst ne
      rw [eqD_same (.lsts hl hh) v r1 r2]
      cases r1
      cases rx; cases ry
      exact SeqAt.EqAt.same _
    · cases r1 with
      | lst h1 g1 => cases r2 with
        | lst h2 g2 =>
          cases rx; cases ry
          obtain ⟨xs, zs, p1, p2, l1, l2, q⟩ := both_lst (A := A.in1) I eF h1 h2 g1 g2 fun j h1 h2 v w x y a1 a2 a3 a4 => ih j h1 h2 A.in1 (by show A.units + 1 + _ < cLine; omega) v w x y a1 a2 a3 a4
          refine SeqAt.EqAt.of_refs (fun z => ne (by rw [z])) ?_
          have := SeqAt.RcAt.lists (A := A) p1 p2 (by rw [l1, l2, hl]) (by omega) q
          rw [l1] at this
          exact this
  | lstsN hl =>
    intro A hu v w x y r1 r2 rx ry
    cases r1 with
    | lst h1 g1 => cases r2 with
      | lst h2 g2 =>
        cases rx; cases ry
        obtain ⟨xs, q1, p1⟩ := lst_is I eF h1
        obtain ⟨ys, q2, p2⟩ := lst_is I eF h2
        refine SeqAt.EqAt.of_refs (fun z => ?_) ?_
        · subst z
          cases h1.symm.trans h2
          exact hl (g1.length.symm.trans g2.length)
        · refine SeqAt.RcAt.lists_lengths p1 p2 ?_ (by omega)
          rw [List.size_toArray, List.size_toArray, ← q1.length, ← q2.length, g1.length, g2.length]
          simpa using hl
  | tups hh ih =>
    intro A hu v w x y r1 r2 rx ry
    by_cases ne : v = w
    · subst ne
      rw [eqD_same (.tups hh) v r1 r2]
      cases r1
      cases rx; cases ry
      exact SeqAt.EqAt.same _
    · cases r1 with
      | tup h1 g1 => cases r2 with
        | tup h2 g2 =>
          cases rx; cases ry
          obtain ⟨xs, zs, p1, p2, l1, l2, q⟩ := both_tup (A := A.in1) I eF h1 h2 g1 g2 fun j h1 h2 v w x y a1 a2 a3 a4 => ih j h1 h2 A.in1 (by show A.units + 1 + _ < cLine; omega) v w x y a1 a2 a3 a4
          refine SeqAt.EqAt.of_refs (fun z => ne (by rw [z])) ?_
          have := SeqAt.RcAt.tuples (A := A) p1 p2 (by omega) q
          rw [l1, l2] at this
          exact this
  | lstF h =>
    intro A hu v w x y r1 r2 rx ry
    cases r1 with
    | lst h1 g1 =>
      cases rx
      obtain ⟨xs, p1⟩ := one_lst I eF h1
      rcases flat_at r2 ry h with rfl | ⟨b, rfl⟩ | ⟨i, t, rfl⟩ | ⟨z, t, rfl⟩
      · exact SeqAt.EqAt.list_none p1 (by omega)
      · exact SeqAt.EqAt.list_bool b p1 (by omega)
      · exact SeqAt.EqAt.list_int i t p1 (by omega)
      · exact SeqAt.EqAt.list_str z t p1 (by omega)
  | tupF h =>
    intro A hu v w x y r1 r2 rx ry
    cases r1 with
    | tup h1 g1 =>
      cases rx
      obtain ⟨xs, p1⟩ := one_tup I eF h1
      rcases flat_at r2 ry h with rfl | ⟨b, rfl⟩ | ⟨i, t, rfl⟩ | ⟨z, t, rfl⟩
      · exact SeqAt.EqAt.tuple_none p1 (by omega)
      · exact SeqAt.EqAt.tuple_bool b p1 (by omega)
      · exact SeqAt.EqAt.tuple_int i t p1 (by omega)
      · exact SeqAt.EqAt.tuple_str z t p1 (by omega)
  | fLst h =>
    intro A hu v w x y r1 r2 rx ry
    cases r2 with
    | lst h1 g1 =>
      cases ry
      obtain ⟨xs, p1⟩ := one_lst I eF h1
      rcases flat_at r1 rx h with rfl | ⟨b, rfl⟩ | ⟨i, t, rfl⟩ | ⟨z, t, rfl⟩
      · exact SeqAt.EqAt.none_list p1 (by omega)
      · exact SeqAt.EqAt.bool_list b p1 (by omega)
      · exact SeqAt.EqAt.int_list i t p1 (by omega)
      · exact SeqAt.EqAt.str_list z t p1 (by omega)
  | fTup h =>
    intro A hu v w x y r1 r2 rx ry
    cases r2 with
    | tup h1 g1 =>
      cases ry
      obtain ⟨xs, p1⟩ := one_tup I eF h1
      rcases flat_at r1 rx h with rfl | ⟨b, rfl⟩ | ⟨i, t, rfl⟩ | ⟨z, t, rfl⟩
      · exact SeqAt.EqAt.none_tuple p1 (by omega)
      · exact SeqAt.EqAt.bool_tuple b p1 (by omega)
      · exact SeqAt.EqAt.int_tuple i t p1 (by omega)
      · exact SeqAt.EqAt.str_tuple z t p1 (by omega)
  | lstTup =>
    intro A hu v w x y r1 r2 rx ry
    cases r1 with
    | lst h1 g1 => cases r2 with
      | tup h2 g2 =>
        cases rx; cases ry
        obtain ⟨xs, p1⟩ := one_lst I eF h1
        obtain ⟨ys, p2⟩ := one_tup I eF h2
        exact SeqAt.EqAt.list_tuple p1 p2 (by omega)
  | tupLst =>
    intro A hu v w x y r1 r2 rx ry
    cases r1 with
    | tup h1 g1 => cases r2 with
      | lst h2 g2 =>
        cases rx; cases ry
        obtain ⟨xs, p1⟩ := one_tup I eF h1
        obtain ⟨ys, p2⟩ := one_lst I eF h2
        exact SeqAt.EqAt.tuple_list p1 p2 (by omega)
  | dk0 =>
    intro A hu v w x y r1 r2 rx ry
    cases r1 with
    | dk h1 g1 => cases r2 with
      | dk h2 g2 =>
        cases g1; cases g2
        cases rx; cases ry
        exact eq_dic (dic0_of (I.hok _ _ (eF _ _ h1))) (dic0_of (I.hok _ _ (eF _ _ h2))) (by omega)
  | dkBl =>
    intro A hu v w x y r1 r2 rx ry
    cases r1 with
    | dk h1 g1 =>
      cases r2
      cases g1
      cases rx; cases ry
      exact dic_bool _ (dic0_of (I.hok _ _ (eF _ _ h1))) (by omega)
/-- as a whole comparision: of lists, tuples, dicts -/
inductive Whole : D → D → Bool → Prop
  | lsts {us ws : List D} {e : Nat → Bool} : us.length = ws.length → (∀ j (h1 : j < us.length) (h2 : j < ws.length), EqD 60 us[j] ws[j] (e j)) → Whole (.lst us) (.lst ws) ((List.range us.length).all e)
  | lstsN {us ws : List D} : us.length ≠ ws.length → Whole (.lst us) (.lst ws) false
  | tups {us ws : List D} {e : Nat → Bool} : (∀ j (h1 : j < us.length) (h2 : j < ws.length), EqD 60 us[j] ws[j] (e j)) → Whole (.tup us) (.tup ws) ((List.range (min us.length ws.length)).all e && us.length == ws.length)
  | dk0 : Whole (.dk []) (.dk []) true
def rEqW (K : PySem.W.Frag) (neg : Bool) : R2 := fun x y H Q => ∃ F d e b, Ex F H ∧ Rep K F x d ∧ Rep K F y e ∧ Whole d e b ∧ Q (.bl (if neg then !b else b)) H
theorem op_eqW (hu : X.A.units + 64 < cLine) : OpR X (compareOp .Eq) (rEqW X.K false) := by
  intro pins s σ H x y v u Q I rx ry h
  obtain ⟨F, d, e, b, eF, r1, r2, t, q⟩ := h
  have fin : ∀ {k : Bool}, SeqAt.RcAt X.A s v u k → k = b → wpAny (model X.prog X.w) X.A (compareOp .Eq v u) (EP X pins σ Q) X.xe s := fun hk z => by
    subst z
    exact hk _ _ _ _ ⟨.bl _, H, I, rfl, q⟩
  cases t with
  | lsts hl hh =>
    cases r1 with
    | lst h1 g1 => cases r2 with
      | lst h2 g2 =>
        cases rx; cases ry
        obtain ⟨xs, zs, p1, p2, l1, l2, q⟩ := both_lst (A := X.A.in1) I eF h1 h2 g1 g2 fun j h1 h2 v w x y a1 a2 a3 a4 => eqD_at I eF (hh j h1 h2) X.A.in1 (by show X.A.units + 1 + _ < cLine; omega) v w x y a1 a2 a3 a4
        exact fin (SeqAt.RcAt.lists p1 p2 (by rw [l1, l2, hl]) (by omega) q) (by rw [l1])
  | lstsN hl =>
    cases r1 with
    | lst h1 g1 => cases r2 with
      | lst h2 g2 =>
        cases rx; cases ry
        obtain ⟨xs, q1, p1⟩ := lst_is I eF h1
        obtain ⟨ys, q2, p2⟩ := lst_is I eF h2
        refine fin (SeqAt.RcAt.lists_lengths p1 p2 ?_ (by omega)) rfl
        rw [List.size_toArray, List.size_toArray, ← q1.length, ← q2.length, g1.length, g2.length]
        simpa using hl
  | tups hh =>
    cases r1 with
    | tup h1 g1 => cases r2 with
      | tup h2 g2 =>
        cases rx; cases ry
        obtain ⟨xs, zs, p1, p2, l1, l2, q⟩ := both_tup (A := X.A.in1) I eF h1 h2 g1 g2 fun j h1 h2 v w x y a1 a2 a3 a4 => eqD_at I eF (hh j h1 h2) X.A.in1 (by show X.A.units + 1 + _ < cLine; omega) v w x y a1 a2 a3 a4
        exact fin (SeqAt.RcAt.tuples p1 p2 (by omega) q) (by rw [l1, l2])
  | dk0 =>
    cases r1 with
    | dk h1 g1 => cases r2 with
      | dk h2 g2 =>
        cases g1; cases g2
        cases rx; cases ry
        exact fin (rc_dic (dic0_of (I.hok _ _ (eF _ _ h1))) (dic0_of (I.hok _ _ (eF _ _ h2))) (by omega)) rfl
theorem op_neW (hu : X.A.units + 64 < cLine) : OpR X (compareOp .NotEq) (rEqW X.K true) := by
  intro pins s σ H x y v u Q I rx ry h
  obtain ⟨F, d, e, b, eF, r1, r2, t, q⟩ := h
  have fin : ∀ {k : Bool}, SeqAt.RcNeAt X.A s v u k → k = !b → wpAny (model X.prog X.w) X.A (compareOp .NotEq v u) (EP X pins σ Q) X.xe s := fun hk z => by
    subst z
    exact hk _ _ _ _ ⟨.bl _, H, I, rfl, q⟩
  cases t with
  | lsts hl hh =>
    cases r1 with
    | lst h1 g1 => cases r2 with
      | lst h2 g2 =>
        cases rx; cases ry
        obtain ⟨xs, zs, p1, p2, l1, l2, q⟩ := both_lst (A := X.A.in1) I eF h1 h2 g1 g2 fun j h1 h2 v w x y a1 a2 a3 a4 => eqD_at I eF (hh j h1 h2) X.A.in1 (by show X.A.units + 1 + _ < cLine; omega) v w x y a1 a2 a3 a4
        exact fin (SeqAt.RcNeAt.lists p1 p2 (by rw [l1, l2, hl]) (by omega) q) (by rw [l1])
  | lstsN hl =>
    cases r1 with
    | lst h1 g1 => cases r2 with
      | lst h2 g2 =>
        cases rx; cases ry
        obtain ⟨xs, q1, p1⟩ := lst_is I eF h1
        obtain ⟨ys, q2, p2⟩ := lst_is I eF h2
        refine fin (SeqAt.RcNeAt.lists_lengths p1 p2 ?_ (by omega)) rfl
        rw [List.size_toArray, List.size_toArray, ← q1.length, ← q2.length, g1.length, g2.length]
        simpa using hl
  | tups hh =>
    cases r1 with
    | tup h1 g1 => cases r2 with
      | tup h2 g2 =>
        cases rx; cases ry
        obtain ⟨xs, zs, p1, p2, l1, l2, q⟩ := both_tup (A := X.A.in1) I eF h1 h2 g1 g2 fun j h1 h2 v w x y a1 a2 a3 a4 => eqD_at I eF (hh j h1 h2) X.A.in1 (by show X.A.units + 1 + _ < cLine; omega) v w x y a1 a2 a3 a4
        exact fin (SeqAt.RcNeAt.tuples p1 p2 (by omega) q) (by rw [l1, l2])
  | dk0 =>
    cases r1 with
    | dk h1 g1 => cases r2 with
      | dk h2 g2 =>
        cases g1; cases g2
        exact op_ne_dictA (X := X) (by omega) pins s σ H _ _ v u Q I rx ry ⟨_, _, [], [], rfl, rfl, eF _ _ h1, eF _ _ h2, rfl, (fun p hp => by cases hp), q⟩
/-- == and !=, trees with empty dicts too -/
def aEqW (neg : Bool) : D → D → AH → (D → AH → Prop) → Prop := fun x y C P => aEqN neg x y C P ∨ ∃ b, Whole x y b ∧ P (.bl (if neg then !b else b)) C
theorem ao_eqW (hu : X.A.units + 64 < cLine) (hK : X.K = K := by rfl) : AOp B X (compareOp .Eq) (fun x y H Q => (rEq x y H Q ∨ rEqD K x y H Q) ∨ rEqW K false x y H Q) (aEqW false) := by
  subst hK
  refine ⟨(op_eq.or (op_eqD hu)).or (op_eqW hu), ?_⟩
  intro v w d e F C R H Q P hS r1 r2 h k
  rcases h with h | ⟨b, t, h3⟩
  · exact .inl ((sim_eq (B := B)) v w d e F C R H Q P hS r1 r2 h k)
  · exact .inr ⟨F, d, e, b, hS.ex, r1, r2, t, k _ _ F C H (Ex.refl F) hS (.bl _) h3⟩
theorem ao_neW (hu : X.A.units + 64 < cLine) (hK : X.K = K := by rfl) : AOp B X (compareOp .NotEq) (fun x y H Q => (rNe x y H Q ∨ rNeD K x y H Q) ∨ rEqW K true x y H Q) (aEqW true) := by
  subst hK
  refine ⟨(op_ne.or (op_neD hu)).or (op_neW hu), ?_⟩
  intro v w d e F C R H Q P hS r1 r2 h k
  rcases h with h | ⟨b, t, h3⟩
  · exact .inl ((sim_ne (B := B)) v w d e F C R H Q P hS r1 r2 h k)
  · exact .inr ⟨F, d, e, b, hS.ex, r1, r2, t, k _ _ F C H (Ex.refl F) hS (.bl _) h3⟩
end
end AL
namespace AL
open PySem PySem.Spec PyProof.Rows L2
end AL
namespace AL
open PySem PySem.Spec PyProof.Rows L2
end AL
namespace AL
open PySem PySem.Spec PyProof.Rows L2
open AutoSeq1 (wpAny_loadPart')
variable {B : Bs}
section
variable {X : Cx} {K : PySem.W.Frag}
theorem tuple_mulS (l : Addr) (items : Array Value) (n : Nat) (dd : Option Addr) (sl : Array (Option Value)) (x : Int) (u : Tok) (c0 : (decide (x < -(2 ^ 63)) || decide (x ≥ 2 ^ 63)) = false) (c1 : (items.isEmpty || x == 1) = true) :
    Meets (Builtin.«tuple.__mul__» ⟨[.ref l, .int x u], []⟩) (fun _ R s => s.heap.get? l = some { cls := .type "tuple", dict := dd, data := .seq items n, slots := sl } ∧
      R (.ok (.ret (Value.ref l))) s) :=
  .of_wp fun prog w A R s h => by
    obtain ⟨hp, g, d, tk, os⟩ := s
    obtain ⟨hl, h⟩ := h
    have f1 := AutoSeq1.idx_int
    wp_walk using wpAny_loadPart' hl
    repeat (first
      | (refine wpAny_ite_false (decide_eq_false (by rw [c0]; exact Bool.false_ne_true)) ?_; wp_walk using wpAny_loadPart' hl)
      | (refine wpAny_ite_true (decide_eq_true c1) ?_; wp_walk using wpAny_loadPart' hl))
    exact ⟨_, rfl, h⟩
def rRepS (K : PySem.W.Frag) : R2 := fun x y H Q => ∃ l k xs, x = .ref l ∧ y = .int k ∧ SqT K H l xs ∧ (xs = [] ∨ k = 1) ∧ 1 ≤ k ∧ k ≤ 1000 ∧ Q (.ref l) H
theorem op_repS : OpR X (binaryOp .Mult) (rRepS X.K) := by
  intro pins s σ H x y v u Q I rx ry h
  obtain ⟨l, k, xs, rfl, rfl, hT, hne, h1, h2, q⟩ := h
  cases rx
  obtain ⟨t, rfl⟩ := ry
  obtain ⟨its, r, ⟨⟨cls, dd, data, sl⟩, ho, hc, n, hd⟩, hs⟩ := I.tuple hT
  simp only at hc hd
  subst hc hd
  have hle : its.length = xs.length := r.length.symm
  have c0 : (decide (k < -(2 ^ 63)) || decide (k ≥ 2 ^ 63)) = false := by
    rw [decide_eq_false (by omega), decide_eq_false (by omega)] <;> rfl
  have c1 : (its.toArray.isEmpty || k == 1) = true := by
    rcases hne with e | e
    · rw [e] at hle
      rw [List.eq_nil_of_length_eq_zero hle]
      rfl
    · rw [e]
      simp
  refine wpAny_binaryOp_repeat_ref (T := "tuple") (U := "int") (by decide) ⟨_, ho, rfl⟩ (fun s' => typeIs_int s' k t) noFill_tuple_mul F.fills_int_mul F.slot_int_rmul repeat_tuple F.slot_int_index.lookup
    (call_meets F.slot_int_rmul (typeIs_int s k t) F.entry_int_rmul (F.args_int_rmul_2 _ _) (int_rmul_tuple k t l its.toArray n dd sl)
      ⟨ho, rfl, ⟨_, ho, rfl⟩, call_meets F.slot_tuple_mul ⟨_, ho, rfl⟩ F.entry_tuple_mul (F.args_tuple_mul_2 _ _) (tuple_mulS l its.toArray n dd sl k t c0 c1) ⟨ho, ?_⟩⟩)
  exact ⟨.ref l, H, I, rfl, q⟩
def rRepTN (K : PySem.W.Frag) : R2 := fun x y H Q => ∃ l k xs, x = .ref l ∧ y = .int k ∧ SqT K H l xs ∧ xs ≠ [] ∧ 2 ≤ k ∧ k ≤ 1000 ∧ xs.length ≤ 1000 ∧ NewT (List.replicate k.toNat xs).flatten Q H
theorem rep_len {α : Type} (m : Nat) (l : List α) : (List.replicate m l).flatten.length = m * l.length := by
  induction m with
  | zero => simp
  | succ m ih => rw [List.replicate_succ, List.flatten_cons, List.length_append, ih, Nat.succ_mul, Nat.add_comm]
theorem op_repTN : OpR X (binaryOp .Mult) (rRepTN X.K) := by
  intro pins s σ H x y v u Q I rx ry h
  obtain ⟨l, k, xs, rfl, rfl, hT, hne, h1, h2, hz, q⟩ := h
  cases rx
  obtain ⟨t, rfl⟩ := ry
  obtain ⟨its, r, ⟨⟨cls, dd, data, sl⟩, ho, hc, n, hd⟩, _⟩ := I.tuple hT
  dsimp only at hc hd
  subst hc hd
  have hle : its.length = xs.length := r.length.symm
  have hpos : 0 < its.length := by rw [hle]; exact List.length_pos_iff.mpr hne
  have hemp : its.toArray.isEmpty = false := by
    cases its with
    | nil => exact absurd hpos (Nat.lt_irrefl _)
    | cons a b => rfl
  have hsz : its.toArray.size = xs.length := by rw [List.size_toArray, hle]
  have hml : ((xs.length : Nat) : Int) * k ≤ 1000000 := by
    have := Int.mul_le_mul_of_nonneg_right (show ((xs.length : Nat) : Int) ≤ 1000 by omega) (show 0 ≤ k by omega)
    omega
  have hnl : k.toNat * xs.length ≤ 1000000 := Nat.mul_le_mul (show k.toNat ≤ 1000 by omega) hz
  have z1 : (decide (k < -(2 ^ 63)) || decide (k ≥ 2 ^ 63)) = false := by simp; omega
  have z2 : (its.toArray.isEmpty || k == 1) = false := by rw [hemp, Bool.false_or]; exact beq_eq_false_iff_ne.mpr (by omega)
  have z3 : (decide (k ≤ 0) || its.toArray.isEmpty) = false := by rw [hemp, Bool.or_false]; exact decide_eq_false (by omega)
  have z4 : Builtin.Tuple.tupleTooMany (((its.toArray.size : Nat) : Int) * k) = false := by
    rw [hsz]
    unfold Builtin.Tuple.tupleTooMany
    rw [sizeLine_eq]
    exact decide_eq_false (by omega)
  have z5 : (List.foldl (fun x1 x2 => x1 ++ x2) #[] (List.replicate k.toNat its.toArray)).size ≤ sizeLine := by
    rw [size_rep, List.size_toArray, rep_len, hle, sizeLine_eq]
    omega
  have fin : EP X pins σ Q (.ref s.heap.objs.size) { s with heap := s.heap.push { cls := .type "tuple", data := .seq (List.foldl (fun x1 x2 => x1 ++ x2) #[] (List.replicate k.toNat its.toArray)) } } := by
    rw [size_rep]
    exact laidT (tk := s.toks) I (by rw [rep_len, sizeLine_eq]; omega) (r.rep k.toNat) q
  exact wpAny_binaryOp_repeat_ref (T := "tuple") (U := "int") (by decide) ⟨_, ho, rfl⟩ (fun s' => typeIs_int s' k t) noFill_tuple_mul F.fills_int_mul F.slot_int_rmul repeat_tuple F.slot_int_index.lookup
    (call_meets F.slot_int_rmul (typeIs_int s k t) F.entry_int_rmul (F.args_int_rmul_2 _ _) (int_rmul_tuple k t l its.toArray n dd sl)
      ⟨ho, rfl, ⟨_, ho, rfl⟩, call_meets F.slot_tuple_mul ⟨_, ho, rfl⟩ F.entry_tuple_mul (F.args_tuple_mul_2 _ _)
        (tuple_mulW l its.toArray n dd sl k t z1 z2 z3 (by rw [hsz]; omega) z4 z5) ⟨ho, fin⟩⟩)
def aRepT : D → D → AH → (D → AH → Prop) → Prop := fun x y C P => match x, y with
  | .tup ds, .int k => 1 ≤ k ∧ k ≤ 1000 ∧ ds.length ≤ 1000 ∧ P (.tup (List.replicate k.toNat ds).flatten) C
  | _, _ => False
theorem ao_repT (hK : X.K = K := by rfl) : AOp B X (binaryOp .Mult) (fun x y H Q => rRepS K x y H Q ∨ rRepTN K x y H Q) aRepT := by
  subst hK
  refine ⟨op_repS.or op_repTN, ?_⟩
  intro v w d e F C R H Q P hS r1 r2 h k
  unfold aRepT at h
  split at h
  · rename_i ds i
    cases r2
    obtain ⟨h1, h2, h3, h4⟩ := h
    cases r1 with
    | @tup a xs us g1 g2 =>
      by_cases hk : ds = [] ∨ i = 1
      · refine .inl ⟨a, i, xs, rfl, rfl, g1.sq hS.ex, ?_, h1, h2, k _ _ F C H (Ex.refl F) hS ?_ h4⟩
        · rcases hk with e | e
          · subst e
            cases g2
            exact .inl rfl
          · exact .inr e
        · have : (List.replicate i.toNat ds).flatten = ds := by
            rcases hk with e | e
            · subst e
              simp
            · subst e
              simp
          rw [this]
          exact .tup g1 g2
      · refine .inr ⟨a, i, xs, rfl, rfl, g1.sq hS.ex, fun e => ?_, by omega, h2, by rw [g2.length]; exact h3, fun p ob hob hp => ?_⟩
        · subst e
          cases g2
          exact hk (.inl rfl)
        · have e : Ex F (upd F p (.frz ob (.tup (List.replicate i.toNat xs).flatten))) := Ex.new (hS.freeF hp)
          exact k _ _ _ C _ e (hS.newF hp _) (.tup (.frz hob upd_same) ((g2.times _).mono e)) h4
  · exact h.elim
end
end AL
namespace AL
open PySem PySem.Spec PyProof.Rows L2
end AL
namespace AL
open PySem PySem.Spec PyProof.Rows L2
open PyProof.Rows (envOfC)
variable {B : Bs}
/-- what is asked where a class's exception flies out, the slots and the cells as they are then -/
abbrev AX' := ASt → Str → AH → Prop
abbrev ASpX := List D → AH → (D → AH → Prop) → (Str → AH → Prop) → Prop
def aRaise (W : AX') (nm : Str) : AS' := fun _ s C => W s nm C
section
variable {X : Cx} {K : PySem.W.Frag} {W : AX'} {Wk : WX} {x m : Str} {j : Nat} {p p2 p3 pos : Pos}
def aCallX (W : AX') (asp : ASpX) (a : AA') : AE' := fun s C P => a s C fun ds C1 => asp ds C1 P (W s)
variable {e : Expr} {es : List Expr} {n : Nat} {t : TA} {a : AA'} {asp : ASpX} {k i : Nat}
end
def aBodyX (n : Nat) (b : AX' → AS') : ASpX := fun ds C P PX => b (fun _ nm C' => PX nm C') ⟨fun _ C' => P .non C', P, fun _ _ => False, fun _ _ => False⟩ (ds.map some ++ List.replicate (n - ds.length) none) C
def aHand (sub : Str → Str → Option Bool) (Wout : AX') (E : AEnds) : List (Str × AS') → AX'
  | [] => Wout
  | (c, h) :: r => fun s nm C => match sub nm c with | some true => h E s C | some false => aHand sub Wout E r s nm C | none => False
def aTry (sub : Str → Str → Option Bool) (body : AX' → AS') (hds : List (Str × AS')) (Wout : AX') : AS' := fun E s C => body (aHand sub Wout E hds) E s C
inductive AHds (X : Cx) : List ExceptHandler → List (Value × (Addr → Value → Option Addr → TS)) → List (Str × AS') → Prop
  | nil : AHds X [] [] []
  | cons {x : Str} {c : Value} {ts : TS} {ha : AS'} {b₀ : Stmt} {suite : List Stmt} {np pos' : Pos} {hds : List ExceptHandler} {l : List (Value × (Addr → Value → Option Addr → TS))} {la : List (Str × AS')} (hm : X.mg x = some c) (hg : Gl X x) (hdb : (x == ("__debug__" : Str)) = false)
      (hsu : ∀ (B : Bs) (hw : B.g = ⟨X.w, X.mg⟩) (a : Addr) (oe : Obj) (pn : List (Addr × Obj)), ASs B (X.suite a ((a, oe) :: pn)) (b₀ :: suite) ts ha) (r : AHds X hds l la) :
      AHds X (.ExceptHandler (some (.Name x np)) none (b₀ :: suite) pos' :: hds) ((c, fun _ _ _ => ts) :: l) ((x, ha) :: la)
section
variable {X : Cx} {body : List Stmt} {h₀ : ExceptHandler} {hds : List ExceptHandler} {l : List (Value × (Addr → Value → Option Addr → TS))} {la : List (Str × AS')} {pos : Pos} {tb : WX → TS} {W : AX'} {Wk : WX} {ab : AX' → AS'} {sub : Str → Str → Option Bool}
theorem AHds.ok {hds : List ExceptHandler} (h : AHds X hds l la) : HdsOk X hds l := by
  induction h with
  | nil => exact .nil
  | cons hm hg hdb hsu r ih => exact .cons ⟨hg, hdb, .inl hm⟩ (fun a oe cls d pn _ _ => (hsu (Bs.nil ⟨X.w, X.mg⟩) rfl a oe pn).ps) ih
/-- a def that lets nothing out, from one whose walk tells so -/
theorem AE.nox {e : Expr} {t : TE} {a : AE'} (h : AE B X.nox e t a) : AE B X e t a := ⟨h.pe.nox, h.sim⟩
theorem ASs.nox {st : List Stmt} {t : TS} {a : AS'} (h : ASs B X.nox st t a) : ASs B X st t a := ⟨h.ps.nox, h.sim⟩
theorem PS.nox {st : Stmt} {t : TS} (h : PS X.nox st t) : PS X st t := ⟨fun pins s σ H D I hw =>
  wpAny_mono (h.run pins s σ H D (I.wish _) hw) (fun _ _ q => q.unwish) fun _ _ z => False.elim z⟩
theorem AS.nox {st : Stmt} {t : TS} {a : AS'} (h : AS B X.nox st t a) : AS B X st t a := ⟨PS.nox h.ps, h.sim⟩
theorem AT.nox {e : Expr} {t : TT} {a : AT'} (h : AT B X.nox e t a) : AT B X e t a := ⟨h.pt.nox, h.sim⟩
end
section
variable {C : AH} {P : D → AH → Prop} {PX : Str → AH → Prop} {W : AX'} {E : AEnds} {s : ASt}
theorem g_bodyX {n : Nat} {b : AX' → AS'} {ds : List D} {s : ASt} (h0 : ds.map some ++ List.replicate (n - ds.length) none = s) (h : b (fun _ nm C' => PX nm C') ⟨fun _ C' => P .non C', P, fun _ _ => False, fun _ _ => False⟩ s C) : aBodyX n b ds C P PX := by
  subst h0
  exact h
theorem g_callX {asp : ASpX} {a : AA'} (h : a s C fun ds C1 => asp ds C1 P (W s)) : aCallX W asp a s C P := h
theorem g_raise {nm : Str} (h : W s nm C) : aRaise W nm E s C := h
theorem g_try {sub : Str → Str → Option Bool} {body : AX' → AS'} {hds : List (Str × AS')} (h : body (aHand sub W E hds) E s C) : aTry sub body hds W E s C := h
end
end AL
namespace AL
open PySem PySem.Spec PyProof.Rows L2
end AL
namespace AL
open PySem PySem.Spec PyProof.Rows L2
variable {B : Bs}
section
variable {X : Cx} {pos cpos apos : Pos} {o i e : Expr} {to ti te : TE} {ao ai ae : AE'} {K : PySem.W.Frag}
def aGet1 (o i : AE') : AE' := fun s C P => o s C fun x C1 => (asK C1 x).isSome = true ∧ i s C1 fun y C2 => match asK C2 x, keyOf y with
  | some es, some k => P ((valD es k).getD .non) C2
  | _, _ => False
def aGet2 (o i e : AE') : AE' := fun s C P => o s C fun x C1 => (asK C1 x).isSome = true ∧ i s C1 fun y C2 => e s C2 fun z C3 => match asK C3 x, keyOf y with
  | some es, some k => P ((valD es k).getD z) C3
  | _, _ => False
/-- {k: v}, k of any kind that may be -/
def aDispV (ak av : AE') : AE' := fun s C P => ak s C fun dk C1 => av s C1 fun dv C2 => match keyOf dk with
  | some k => ∀ p, C2 p = none → P (.ce p) (put C2 p (.dk [(k, dv)]))
  | none => False
end
section
variable {C : AH} {P : D → AH → Prop} {s : ASt} {o i e : AE'}
def kGet1 (i : AE') (s : ASt) (P : D → AH → Prop) : D → AH → Prop := fun x C1 => (asK C1 x).isSome = true ∧ i s C1 fun y C2 => match asK C2 x, keyOf y with
  | some es, some k => P ((valD es k).getD .non) C2
  | _, _ => False
theorem g_get1 (h : o s C (kGet1 i s P)) : aGet1 o i s C P := h
def kGet2 (i e : AE') (s : ASt) (P : D → AH → Prop) : D → AH → Prop := fun x C1 => (asK C1 x).isSome = true ∧ i s C1 fun y C2 => e s C2 fun z C3 => match asK C3 x, keyOf y with
  | some es, some k => P ((valD es k).getD z) C3
  | _, _ => False
theorem g_get2 (h : o s C (kGet2 i e s P)) : aGet2 o i e s C P := h
def kDispV (P : D → AH → Prop) (dk : D) : D → AH → Prop := fun dv C2 => match keyOf dk with
  | some k => ∀ p, C2 p = none → P (.ce p) (put C2 p (.dk [(k, dv)]))
  | none => False
theorem g_dispV {ak av : AE'} (h : ak s C fun dk C1 => av s C1 (kDispV P dk)) : aDispV ak av s C P := h
theorem g_kDispVI {i : Int} {dv : D} (h : ∀ p, C p = none → P (.ce p) (put C p (.dk [(.inl i, dv)]))) : kDispV P (.int i) dv C := h
end
end AL
namespace AL
open PySem PySem.Spec PyProof.Rows L2
variable {B : Bs}
section
variable {P : Program} {w : World} {H : Hp} {h : Heap}
mutual
theorem vkey_is (ok : HOk P w H h) : ∀ {v : V} {k : NestedKey} {u : Value}, VKey H v k → RelV v u → NestedIs h k u
  | _, _, _, .non, r => by cases r; exact .none
  | _, _, _, .bl b, r => by cases r; exact .bool rfl
  | _, _, _, .int i, r => by obtain ⟨t, rfl⟩ := r; exact .int i t
  | _, _, _, .str x, r => by obtain ⟨t, rfl⟩ := r; exact .text x t
  | .ref a, .tup ks, _, .tup (vs := vs) e q, r => by
    cases r
    obtain ⟨_, its, rv, o, h1, h2, n, h3⟩ := (show ObjOk P w H h a (.tup vs) from Rd.ok e ok)
    exact .tup h1 h2 h3 (by rw [List.toList_toArray]; exact vkeys_are ok q rv)
theorem vkeys_are (ok : HOk P w H h) : ∀ {vs : List V} {ks : List NestedKey} {us : List Value}, VKeys H vs ks → Vals vs us → NestedAll h ks us
  | _, _, _, .nil, r => by cases r; exact .nil
  | _, _, _, .cons a b, r => by
    cases r with
    | cons r1 r2 => exact .cons (vkey_is ok a r1) (vkeys_are ok b r2)
end
end
abbrev KN : List (NestedKey × Addr × V) → List (NestedKey × Addr × Value) → Prop := Paired fun x y => x.1 = y.1 ∧ x.2.1 = y.2.1 ∧ RelV x.2.2 y.2.2
def valN {α : Type} (xs : List (NestedKey × Addr × α)) (k : NestedKey) : Option α := (xs.find? fun x => decide (x.1 = k)).map (·.2.2)
theorem valN_pos {α : Type} {x : NestedKey × Addr × α} {xs : List (NestedKey × Addr × α)} {k : NestedKey} (e : x.1 = k) : valN (x :: xs) k = some x.2.2 := by simp [valN, e]
theorem valN_neg {α : Type} {x : NestedKey × Addr × α} {xs : List (NestedKey × Addr × α)} {k : NestedKey} (e : ¬ x.1 = k) : valN (x :: xs) k = valN xs k := by simp [valN, e]
def putN (xs : List (NestedKey × Addr × V)) (k : NestedKey) (a : Addr) (v : V) : List (NestedKey × Addr × V) :=
  if (valN xs k).isSome = true then xs.map (fun x => if x.1 = k then (x.1, x.2.1, v) else x) else xs ++ [(k, a, v)]
theorem KN.val {xs : List (NestedKey × Addr × V)} {ys : List (NestedKey × Addr × Value)} (r : KN xs ys) (k : NestedKey) : RelO (valN xs k) ((atKey ys k).map (·.2)) := by
  induction r with
  | nil => exact True.intro
  | @cons p q ps qs h t ih =>
    obtain ⟨h1, _, h2⟩ := h
    by_cases e : p.1 = k
    · have e' : q.1 = k := h1.symm.trans e
      have b : atKey (q :: qs) k = some q.2 := by simp [atKey, List.find?_cons, e']
      rw [valN_pos e, b]; exact h2
    · have e' : ¬ q.1 = k := fun z => e (h1.trans z)
      have b : atKey (q :: qs) k = atKey qs k := by simp [atKey, List.find?_cons, e']
      rw [valN_neg e, b]; exact ih
theorem KN.put {xs : List (NestedKey × Addr × V)} {ys : List (NestedKey × Addr × Value)} (r : KN xs ys) (k : NestedKey) (b : Addr) {y : V} {u : Value} (ry : RelV y u) : KN (putN xs k b y) (storedH ys k b u) := by
  have e : (valN xs k).isSome = (atKey ys k).isSome := by rw [(r.val k).isSome_eq, Option.isSome_map]
  unfold putN storedH
  rw [e]
  by_cases q : (atKey ys k).isSome = true
  · rw [if_pos q, if_pos q]
    clear e q
    induction r with
    | nil => exact .nil
    | @cons p q ps qs h t ih =>
      rw [List.map_cons, List.map_cons]
      refine .cons ?_ ih
      obtain ⟨h1, h2, h3⟩ := h
      unfold putAt
      by_cases e : p.1 = k
      · rw [if_pos e, if_pos (h1.symm.trans e)]; exact ⟨h1, h2, ry⟩
      · rw [if_neg e, if_neg (fun z => e (h1.trans z))]; exact ⟨h1, h2, h3⟩
  · rw [if_neg q, if_neg q]; exact Paired.snoc r ⟨rfl, rfl, ry⟩
theorem putN_le (xs : List (NestedKey × Addr × V)) (k : NestedKey) (a : Addr) (v : V) : (putN xs k a v).length ≤ xs.length + 1 := by
  unfold putN
  split
  · rw [List.length_map]; omega
  · rw [List.length_append]; simp
/-- the keys of the entries stand -/
def KeysN (H : Hp) (xs : List (NestedKey × Addr × V)) : Prop := ∀ x ∈ xs, VKey H (.ref x.2.1) x.1 ∧ x.1.depth ≤ 8
theorem KeysN.put {H : Hp} {xs : List (NestedKey × Addr × V)} (r : KeysN H xs) {k : NestedKey} {a : Addr} {v : V} (hk : VKey H (.ref a) k) (hd : k.depth ≤ 8) : KeysN H (putN xs k a v) := by
  unfold putN
  intro x hx
  split at hx
  · obtain ⟨y, hy, rfl⟩ := List.mem_map.mp hx
    split
    · exact r y hy
    · exact r y hy
  · rcases List.mem_append.mp hx with q | q
    · exact r x q
    · rw [List.mem_singleton.mp q]; exact ⟨hk, hd⟩
theorem dn_of {P : Program} {w : World} {H : Hp} {h : Heap} {p : Addr} {xs : List (NestedKey × Addr × V)} (ok : HOk P w H h) (e : Rd H p (.ext (DictN w p xs))) (hk : KeysN H xs) :
    xs.length ≤ sizeLine ∧ (p == sysModules) = false ∧ ∃ ys, KN xs ys ∧ h.DictOfH (nestedKind P w) p ys := by
  obtain ⟨⟨z, hd, ys, r, o, es, ep, h1, h2, h3, h4, h5⟩, _, _⟩ := (show ObjOk P w H h p (.ext (DictN w p xs)) from Rd.ok e ok)
  refine ⟨z, hd, ys, r, o, es, ep, h1, h2, h3, h4, fun y hy => ?_, h5⟩
  have all : ∀ {l : List (NestedKey × Addr × V)} {m : List (NestedKey × Addr × Value)}, KN l m → KeysN H l → ∀ y ∈ m, (nestedKind P w).is h y.1 y.2.1 := by
    intro l m q
    induction q with
    | nil => intro _ y hy; exact nomatch hy
    | @cons p q ps qs hq t ih =>
      intro hl y hy
      rcases List.mem_cons.mp hy with e | hy
      · subst e
        obtain ⟨g1, g2⟩ := hl p List.mem_cons_self
        rw [hq.1, hq.2.1] at g1
        rw [hq.1] at g2
        exact ⟨vkey_is ok g1 rfl, g2⟩
      · exact ih (fun z hz => hl z (List.mem_cons_of_mem _ hz)) y hy
  exact all r hk y hy
theorem dn_obj {P : Program} {w : World} {H : Hp} {h : Heap} {p : Addr} {xs : List (NestedKey × Addr × V)} {ys : List (NestedKey × Addr × Value)} (z : xs.length ≤ sizeLine) (hd : (p == sysModules) = false) (r : KN xs ys) (dd : h.DictOfH (nestedKind P w) p ys) :
    ObjOk P w H h p (.ext (DictN w p xs)) := by
  obtain ⟨o, es, ep, h1, h2, h3, h4, _, h5⟩ := dd
  refine ⟨⟨z, hd, ys, r, o, es, ep, h1, h2, h3, h4, h5⟩, ⟨o, h1⟩, fun g1 g2 φ k => ?_⟩
  obtain ⟨z, hd, ys, r, o, es, ep, h1, h2, h3, h4, h5⟩ := φ
  exact ⟨z, hd, ys, r, o, es, ep, k o h1, h2, h3, h4, h5⟩
def leafOf : Key → Leaf
  | .inl i => .num i
  | .inr x => .text x
theorem leaf_inj {a b : Key} (h : leafOf a = leafOf b) : a = b := by
  cases a <;> cases b <;> first | (cases h; rfl) | cases h
theorem leaf_is {k : Key} {v : Value} (h : keyIs k v = true) : Leaf.isOf (leafOf k) v = true := by
  rcases keyIs_shape h with ⟨i, t, rfl, rfl⟩ | ⟨x, t, rfl, rfl⟩
  · simp [leafOf, Leaf.isOf]
  · exact h
theorem leaf_dict {P : Program} {w : World} {h : Heap} {a : Addr} {vs : List (Key × Value)} (dd : h.DictOf (mixKind P w) a vs) : h.DictOf (leafKind P w) a (vs.map fun kv => (leafOf kv.1, kv.2)) := by
  obtain ⟨o, es, ep, h1, h2, h3, h4, h5, h6⟩ := dd
  have hh : ∀ k : Key, (leafKind P w).hash (leafOf k) = (mixKind P w).hash k := fun k => by cases k <;> rfl
  refine ⟨o, es, ep, h1, h2, h3, fun e he => ?_, ?_, ?_⟩
  · obtain ⟨k, e1, e2⟩ := h4 e he
    exact ⟨leafOf k, leaf_is e1, by rw [hh]; exact e2⟩
  · clear h6
    generalize es.toList = l at h5
    induction h5 with
    | nil => exact .nil
    | cons e1 e2 e3 ih => exact .cons (leaf_is e1) e2 ih
  · rw [List.map_map]
    have : (vs.map ((fun x => x.1) ∘ fun kv => (leafOf kv.1, kv.2))) = (vs.map (·.1)).map leafOf := by rw [List.map_map]; rfl
    rw [this]
    exact List.pairwise_map.mpr (h6.imp fun hne e => hne (leaf_inj e))
theorem leaf_none : ∀ vs : List (Key × Value), valueAt (vs.map fun kv => (leafOf kv.1, kv.2)) Leaf.none = none
  | [] => rfl
  | (k, v) :: vs => by
    have ih := leaf_none vs
    have : ¬ leafOf k = Leaf.none := by cases k <;> exact fun z => nomatch z
    simp only [valueAt, List.map_cons, List.find?_cons, decide_eq_false this] at ih ⊢
    exact ih
end AL
namespace AL
open PySem PySem.Spec PyProof.Rows L2
variable {B : Bs}
/-- what the dict at a holds at the key y -/
def DGetN (w : World) (H : Hp) (a : Addr) (y : V) (r : Option V) : Prop :=
  DGet H a y r ∨ (∃ kvs, Rd H a (.dK kvs) ∧ y = .non ∧ r = none) ∨ ∃ xs k b, Rd H a (.ext (DictN w a xs)) ∧ KeysN H xs ∧ y = .ref b ∧ VKey H y k ∧ k.depth ≤ 8 ∧ r = valN xs k
def DPutN (w : World) (H : Hp) (a : Addr) (y v : V) (H' : Hp) : Prop :=
  DPut H a y v H' ∨ ∃ xs k b, H a = some (.ext (DictN w a xs)) ∧ KeysN H xs ∧ y = .ref b ∧ VKey H y k ∧ k.depth ≤ 8 ∧ xs.length < sizeLine ∧ H' = upd H a (.ext (DictN w a (putN xs k b v)))
section
variable {X : Cx} {pins : List (Addr × Obj)} {σ : L2.St} {H : Hp} {s : Shared} {a : Addr} {y v d : V} {u r : Value} {o : Option V} {A : Around} {E : Value → Shared → Prop}
theorem nk_room (hu : A.units + 16 < cLine) : (nestedKind X.prog X.w).room A.in1 := by
  show A.in1.units + 8 < cLine
  rw [Around.in1_units]
  omega
theorem nk_is {k : NestedKey} {b : Addr} (I : Inv X pins σ H s) (h : VKey H (.ref b) k) (hd : k.depth ≤ 8) : (nestedKind X.prog X.w).is s.heap k b := ⟨vkey_is I.hok h rfl, hd⟩
theorem dN_notIn {Q : Value → Shared → Prop} (hu : A.units + 16 < cLine) (I : Inv X pins σ H s) (g : DGetN X.w H a y o) (ry : RelV y u) (h : ∀ s', Inv X pins σ H s' → Q (.bool (!o.isSome)) s') :
    wpAny (model X.prog X.w) A (compareOp .NotIn u (.ref a)) Q E s := by
  rcases g with g | ⟨kvs, e, ey, eo⟩ | ⟨xs, k, b, e, hx, ey, hk, hd, er⟩
  · exact d_notIn (by omega) I g ry h
  · subst ey eo
    cases ry
    obtain ⟨z, hd, vs, rel, dd⟩ := dk_rd I.hok e
    refine wpAny_notIn_of (knd := leafKind X.prog X.w) (k := Leaf.none) rfl hd (leaf_dict dd).mapOf ?_
    rw [leaf_none]
    exact h _ (I.tok _)
  · subst ey
    cases ry
    obtain ⟨_, hs, ys, rel, dd⟩ := dn_of I.hok e hx
    refine wpAny_notIn_heap (nk_room hu) (nk_is I hk hd) hs dd ?_
    have q := (rel.val k).isSome_eq
    rw [Option.isSome_map] at q
    rw [← q, ← er]
    exact h _ (I.tok _)
theorem dN_setItem {H' : Hp} {Q : Unit → Shared → Prop} (hu : A.units + 16 < cLine) (I : Inv X pins σ H s) (g : DPutN X.w H a y v H') (ry : RelV y u) (rv : RelV v r) (h : ∀ s', Inv X pins σ H' s' → Q () s') :
    wpAny (model X.prog X.w) A (setItem (.ref a) u r) Q E s := by
  rcases g with g | ⟨xs, k, b, e, hx, ey, hk, hd, hl, eH⟩
  · exact d_setItem (by omega) I g ry rv h
  · subst ey eH
    cases ry
    obtain ⟨z, hs, ys, rel, dd⟩ := dn_of I.hok (.inl e) hx
    have hz : ys.length ≤ sizeLine := by rw [← Paired.length rel]; exact z
    refine wpAny_setItem_heap (hsz := hz) (nk_room hu) (nk_is I hk hd) dd fun h' dd' hsb => h _ ?_
    have hz2 : (putN xs k b v).length ≤ sizeLine := by have := putN_le xs k b v; omega
    have := dn_obj (P := X.prog) (H := upd H a (.ext (DictN X.w a (putN xs k b v)))) hz2 hs (rel.put k b rv) dd'
    obtain ⟨q, es, ep, hq, _⟩ := dd'
    exact d_write I (by rw [e]; exact True.intro) hsb ⟨q, hq⟩ this
end
def tDInN (w : World) (neg : Bool) (ty td : TE) : TE := fun σ H Q => ty σ H fun y H1 => td σ H1 fun x H2 => ∃ a o, x = .ref a ∧ DGetN w H2 a y o ∧ Q (.bl (if neg then !o.isSome else o.isSome)) H2
def sDPutN (w : World) (td ty tv : TE) : TS := fun D σ H => tv σ H fun v H1 => td σ H1 fun x H2 => ty σ H2 fun y H3 => ∃ a H4, x = .ref a ∧ DPutN w H3 a y v H4 ∧ D.nx σ H4
section
variable {X : Cx} {o i e f value : Expr} {pos pos' tpos apos cpos : Pos} {td ty tv tx : TE}
theorem pc_dnotinN (hu : X.A.units + 16 < cLine) (hi : PE X i ty) (ho : PE X o td) : PC X .NotIn i o (tDInN X.w true ty td) := by
  refine ⟨fun pins s σ H Q I h => ?_⟩
  refine thn (hi.run pins s σ H _ I h) fun iv s1 ⟨y, H1, I1, ry, q1⟩ => thn (ho.run pins s1 σ H1 _ I1 q1) fun u s2 ⟨x, H2, I2, rx, a, ov, ex, g, q2⟩ => ?_
  subst ex
  obtain rfl : u = Value.ref a := rx
  exact dN_notIn hu I2 g ry fun s3 I3 => ⟨.bl (!ov.isSome), H2, I3, rfl, q2⟩
theorem ps_dputN (hu : X.A.units + 16 < cLine) (ho : PE X o td) (hi : PE X i ty) (hv : PE X value tv) (hs : swapsWith value (some (.Subscript o i pos')) pos.line X.env = pure false) :
    PS X (.Assign [.Subscript o i pos'] value pos) (sDPutN X.w td ty tv) := by
  refine ⟨fun pins s σ H D I h => ?_⟩
  refine wpAny_Assign_Subscript (thn (hv.run pins s σ H _ I h) fun r s1 ⟨v, H1, I1, rv, q1⟩ => thn (ho.run pins s1 σ H1 _ I1 q1) fun u s2 ⟨x, H2, I2, rx, q2⟩ => thn (hi.run pins s2 σ H2 _ I2 q2) fun iv s3 ⟨y, H3, I3, ry, a, H4, ex, g, q3⟩ => ?_) hs
  subst ex
  obtain rfl : u = Value.ref a := rx
  exact dN_setItem hu I3 g ry rv fun s4 I4 => ⟨σ, H4, I4, q3⟩
/-- {}, to be a dict with tuples for keys -/
def tDNewN (w : World) : TE := fun _ H Q => ∀ p, H p = none → Q (.ref p) (upd H p (.ext (DictN w p [])))
theorem dn_empty {P : Program} {w : World} {H : Hp} (h : Heap) (hb : sysModules < h.objs.size) : ObjOk P w H (h.push { cls := .type "dict", data := .dict #[] }) h.objs.size (.ext (DictN w h.objs.size [])) :=
  dn_obj (ys := []) (Nat.zero_le _) (beq_eq_false_iff_ne.mpr (Ne.symm (Nat.ne_of_lt hb))) .nil (Heap.DictOfH.new h)
theorem pe_dnewN : PE X (.Dict [] [] pos) (tDNewN X.w) := ⟨fun pins s σ H Q I h =>
  wpAny_Dict_empty ⟨.ref s.heap.objs.size, _, I.laid (a := s.heap.objs.size) (o := .ext (DictN X.w s.heap.objs.size [])) (t' := s.toks) (fun _ _ q => Heap.get?_push_of_some _ q) (Nat.le_refl _) (dn_empty s.heap I.big), rfl, h _ (I.hok.fresh (Nat.le_refl _))⟩⟩
end
end AL
namespace AL
open PySem PySem.Spec PyProof.Rows L2
variable {B : Bs}
def keysW (es : List (D × D)) : List (NestedKey × D) := es.map fun kv => ((keyT kv.1).getD .none, kv.2)
def asN (C : AH) : D → Option (List (NestedKey × D))
  | .ce p => (match C p with | some (.dn es) => some es | some (.dw _ es) => some (keysW es) | _ => none)
  | _ => none
def valND (es : List (NestedKey × D)) (k : NestedKey) : Option D := (es.find? fun kv => decide (kv.1 = k)).map (·.2)
def putND (es : List (NestedKey × D)) (k : NestedKey) (d : D) : List (NestedKey × D) :=
  if (valND es k).isSome = true then es.map (fun kv => if kv.1 = k then (kv.1, d) else kv) else es ++ [(k, d)]
/-- the same where the keys are told -/
def putW (es : List (D × D)) (kd : D) (d : D) : List (D × D) :=
  if (valND (keysW es) ((keyT kd).getD .none)).isSome = true then es.map (fun kv => if (keyT kv.1).getD .none = (keyT kd).getD .none then (kv.1, d) else kv) else es ++ [(kd, d)]
theorem keysW_len (es : List (D × D)) : (keysW es).length = es.length := List.length_map _
/-- what a dict holds at a key; none: not to be told -/
def lookD (C : AH) (x y : D) : Option (Option D) := match asK C x with
  | some es => (match keyOf y with | some k => some (valD es k) | none => if isNon y = true then some none else none)
  | none => (match asN C x, keyT y with | some es, some k => some (valND es k) | _, _ => none)
section
variable {K : PySem.W.Frag} {F F' : Hp} {C : AH} {R H : Hp}
mutual
theorem keyN_ok : ∀ {d : D} {v : V} {k : NestedKey}, Rep K F v d → keyN d = some k → VKey F v k
  | .non, _, _, r, h => by cases r; cases h; exact .non
  | .bl b, _, _, r, h => by cases r; cases h; exact .bl b
  | .int i, _, _, r, h => by cases r; cases h; exact .int i
  | .str x, _, _, r, h => by cases r; cases h; exact .str x
  | .tup ds, _, _, r, h => by
    cases r with
    | tup h1 h2 =>
      unfold keyN at h
      obtain ⟨ks, q, rfl⟩ := Option.map_eq_some_iff.mp h
      exact .tup h1.1 (keyNs_ok h2 q)
  | .lst _, _, _, _, h => by unfold keyN at h; cases h
  | .dk _, _, _, _, h => by unfold keyN at h; cases h
  | .scr _, _, _, _, h => by unfold keyN at h; cases h
  | .ce _, _, _, _, h => by unfold keyN at h; cases h
theorem keyNs_ok : ∀ {ds : List D} {vs : List V} {ks : List NestedKey}, RepL K F vs ds → keyNs ds = some ks → VKeys F vs ks
  | [], _, _, r, h => by cases r; cases h; exact .nil
  | d :: ds, _, _, r, h => by
    cases r with
    | cons r1 r2 =>
      unfold keyNs at h
      split at h
      · rename_i q1 q2
        cases h
        exact .cons (keyN_ok r1 q1) (keyNs_ok r2 q2)
      · cases h
end
theorem keyT_ok {d : D} {v : V} {k : NestedKey} (r : Rep K F v d) (h : keyT d = some k) : ∃ b, v = .ref b ∧ VKey F v k ∧ k.depth ≤ 8 := by
  unfold keyT at h
  split at h
  · rename_i ht
    split at h
    · rename_i k' q
      split at h
      · rename_i hd
        cases h
        have := keyN_ok r q
        cases d <;> first | (cases ht; done) | skip
        cases r with
        | tup h1 h2 => exact ⟨_, rfl, this, hd⟩
      · cases h
    · cases h
  · cases h
theorem RepN.keys : ∀ {xs : List (NestedKey × Addr × V)} {es : List (NestedKey × D)}, RepN K F xs es → KeysN F xs
  | _, _, .nil => fun _ h => by cases h
  | _, _, .cons a b r t => fun x hx => by
    rcases List.mem_cons.mp hx with e | hx
    · subst e; exact ⟨a, b⟩
    · exact RepN.keys t x hx
theorem RepN.val (k : NestedKey) : ∀ {xs : List (NestedKey × Addr × V)} {es : List (NestedKey × D)}, RepN K F xs es → (match valND es k with | some d => ∃ v, valN xs k = some v ∧ Rep K F v d | none => valN xs k = none)
  | _, _, .nil => rfl
  | (j, a, v) :: xs, (_, d) :: es, .cons q b r t => by
    have ih := RepN.val k t
    by_cases e : j = k
    · subst e
      rw [valN_pos rfl]
      simp only [valND, List.find?_cons, decide_true, Option.map_some]
      exact ⟨v, rfl, r⟩
    · rw [valN_neg e]
      simp only [valND, List.find?_cons, decide_eq_false e]
      exact ih
theorem RepN.len : ∀ {xs : List (NestedKey × Addr × V)} {es : List (NestedKey × D)}, RepN K F xs es → xs.length = es.length
  | _, _, .nil => rfl
  | _, _, .cons _ _ _ t => by rw [List.length_cons, List.length_cons, RepN.len t]
theorem RepN.some_eq (k : NestedKey) {xs : List (NestedKey × Addr × V)} {es : List (NestedKey × D)} (h : RepN K F xs es) : (valN xs k).isSome = (valND es k).isSome := by
  have := h.val k
  cases q : valND es k with
  | none => rw [q] at this; rw [show valN xs k = none from this]; rfl
  | some d => rw [q] at this; obtain ⟨v, e, _⟩ := this; rw [e]; rfl
theorem RepN.repl (k : NestedKey) {v : V} {d : D} (r : Rep K F v d) : ∀ {xs : List (NestedKey × Addr × V)} {es : List (NestedKey × D)}, RepN K F xs es → RepN K F (xs.map fun x => if x.1 = k then (x.1, x.2.1, v) else x) (es.map fun kv => if kv.1 = k then (kv.1, d) else kv)
  | _, _, .nil => .nil
  | (j, a, _) :: _, _, .cons q1 q2 q t => by
    rw [List.map_cons, List.map_cons]
    by_cases e : j = k
    · rw [if_pos e, if_pos e]; exact .cons q1 q2 r (RepN.repl k r t)
    · rw [if_neg e, if_neg e]; exact .cons q1 q2 q (RepN.repl k r t)
theorem RepN.snoc {k : NestedKey} {a : Addr} {v : V} {d : D} (h1 : VKey F (.ref a) k) (h2 : k.depth ≤ 8) (r : Rep K F v d) : ∀ {xs : List (NestedKey × Addr × V)} {es : List (NestedKey × D)}, RepN K F xs es → RepN K F (xs ++ [(k, a, v)]) (es ++ [(k, d)])
  | _, _, .nil => .cons h1 h2 r .nil
  | _, _, .cons q1 q2 q t => .cons q1 q2 q (RepN.snoc h1 h2 r t)
theorem RepN.put {k : NestedKey} {a : Addr} {v : V} {d : D} (h1 : VKey F (.ref a) k) (h2 : k.depth ≤ 8) (r : Rep K F v d) {xs : List (NestedKey × Addr × V)} {es : List (NestedKey × D)} (h : RepN K F xs es) : RepN K F (putN xs k a v) (putND es k d) := by
  unfold putN putND
  rw [h.some_eq k]
  split
  · exact RepN.repl k r h
  · exact RepN.snoc h1 h2 r h
theorem RepW.toN : ∀ {xs : List (NestedKey × Addr × V)} {es : List (D × D)}, RepW K F xs es → RepN K F xs (keysW es)
  | _, _, .nil => .nil
  | _, _, .cons (k := k) (kd := kd) (d := d) (ds := ds) a b r t => by
    obtain ⟨c, e1, h1, h2⟩ := keyT_ok a b
    have e : keysW ((kd, d) :: ds) = (k, d) :: keysW ds := by unfold keysW; rw [List.map_cons, b]; rfl
    rw [e]
    exact .cons h1 h2 r (RepW.toN t)
theorem RepW.repl (k : NestedKey) {v : V} {d : D} (r : Rep K F v d) : ∀ {xs : List (NestedKey × Addr × V)} {es : List (D × D)}, RepW K F xs es → RepW K F (xs.map fun x => if x.1 = k then (x.1, x.2.1, v) else x) (es.map fun kv => if (keyT kv.1).getD .none = k then (kv.1, d) else kv)
  | _, _, .nil => .nil
  | (j, a, _) :: _, _, .cons q1 q2 q t => by
    rw [List.map_cons, List.map_cons]
    have e1 := q2
    by_cases e : j = k
    · rw [if_pos e, if_pos (show (keyT _).getD NestedKey.none = k by rw [q2]; exact e)]; exact .cons q1 q2 r (RepW.repl k r t)
    · rw [if_neg e, if_neg (show ¬ (keyT _).getD NestedKey.none = k by rw [q2]; exact e)]; exact .cons q1 q2 q (RepW.repl k r t)
theorem RepW.snoc {k : NestedKey} {a : Addr} {v : V} {kd d : D} (h1 : Rep K F (.ref a) kd) (h2 : keyT kd = some k) (r : Rep K F v d) : ∀ {xs : List (NestedKey × Addr × V)} {es : List (D × D)}, RepW K F xs es → RepW K F (xs ++ [(k, a, v)]) (es ++ [(kd, d)])
  | _, _, .nil => .cons h1 h2 r .nil
  | _, _, .cons q1 q2 q t => .cons q1 q2 q (RepW.snoc h1 h2 r t)
theorem RepW.put {k : NestedKey} {a : Addr} {v : V} {kd d : D} (h1 : Rep K F (.ref a) kd) (h2 : keyT kd = some k) (r : Rep K F v d) {xs : List (NestedKey × Addr × V)} {es : List (D × D)} (h : RepW K F xs es) : RepW K F (putN xs k a v) (putW es kd d) := by
  unfold putN putW
  rw [h.toN.some_eq k, show (keyT kd).getD NestedKey.none = k by rw [h2]; rfl]
  split
  · exact RepW.repl k r h
  · exact RepW.snoc h1 h2 r h
theorem asN_ok {v : V} {d : D} {es : List (NestedKey × D)} (hS : Sat B K F C R H) (r : Rep K F v d) (h : asN C d = some es) : ∃ a xs, v = .ref a ∧ Rd H a (.ext (DictN B.g.w a xs)) ∧ RepN K F xs es := by
  cases d with
  | ce p =>
    cases r
    simp only [asN] at h
    split at h
    · rename_i e
      cases h
      obtain ⟨_, o, h1, h2⟩ := hS.cell p _ e
      cases h2 with
      | dn q => exact ⟨p, _, rfl, .inl h1, q⟩
    · rename_i e
      cases h
      obtain ⟨_, o, h1, h2⟩ := hS.cell p _ e
      cases h2 with
      | dw q => exact ⟨p, _, rfl, .inl h1, q.toN⟩
      | dwl q => exact ⟨p, _, rfl, .inr ⟨_, h1⟩, q.toN⟩
    · cases h
  | _ => cases h
def OkO (K : PySem.W.Frag) (F : Hp) (o : Option V) (r : Option D) : Prop := match r with | some d => ∃ z, o = some z ∧ Rep K F z d | none => o = none
theorem OkO.k {kvs : List (Key × V)} {es : List (Key × D)} {k : Key} (h : RepK K F kvs es) : OkO K F (valV kvs k) (valD es k) := by
  have := RepK.val k h
  unfold OkO
  cases q : valD es k with
  | none => rw [q] at this; exact this
  | some d => rw [q] at this; exact this
theorem OkO.n {xs : List (NestedKey × Addr × V)} {es : List (NestedKey × D)} {k : NestedKey} (h : RepN K F xs es) : OkO K F (valN xs k) (valND es k) := by
  have := RepN.val k h
  unfold OkO
  cases q : valND es k with
  | none => rw [q] at this; exact this
  | some d => rw [q] at this; exact this
theorem look_ok {v u : V} {x y : D} {r : Option D} (hS : Sat B K F C R H) (r1 : Rep K F v x) (r2 : Rep K F u y) (h : lookD C x y = some r) :
    ∃ a o, v = .ref a ∧ DGetN B.g.w H a u o ∧ OkO K F o r := by
  unfold lookD at h
  split at h
  · rename_i es q1
    obtain ⟨a, kvs, rfl, h3, h4⟩ := asK_ok hS r1 q1
    split at h
    · rename_i k q2
      cases h
      refine ⟨a, valV kvs k, rfl, .inl (by rw [keyOf_ok r2 q2]; exact .k h3), ?_⟩
      exact OkO.k h4
    · split at h
      · rename_i q2
        cases h
        refine ⟨a, none, rfl, .inr (.inl ⟨kvs, .inl h3, ?_, rfl⟩), rfl⟩
        have := isNon_ok r2
        rw [q2] at this
        exact of_decide_eq_true this
      · cases h
  · split at h
    · rename_i es k q1 q2
      cases h
      obtain ⟨a, xs, rfl, h3, h4⟩ := asN_ok hS r1 q1
      obtain ⟨b, rfl, h5, h6⟩ := keyT_ok r2 q2
      exact ⟨a, valN xs k, rfl, .inr (.inr ⟨xs, k, b, h3, fun z hz => ⟨(h4.keys z hz).1.mono hS.ex, (h4.keys z hz).2⟩, rfl, h5.mono hS.ex, h6, rfl⟩), OkO.n h4⟩
    · cases h
end
section
variable {X : Cx} {pos cpos apos p2 : Pos} {o i e : Expr} {to ti te : TE} {ao ai a : AE'} {K : PySem.W.Frag}
def aGetN (o i : AE') : AE' := fun s C P => o s C fun x C1 => i s C1 fun y C2 => match lookD C2 x y with
  | some (some d) => P d C2
  | _ => False
def aInN (neg : Bool) (i o : AE') : AE' := fun s C P => i s C fun y C1 => o s C1 fun x C2 => match lookD C2 x y with
  | some r => P (.bl (if neg then !r.isSome else r.isSome)) C2
  | none => False
theorem sim_inN (neg : Bool) (ho : SimE B K to ao) (hi : SimE B K ti ai) : SimE B K (tDInN B.g.w neg ti to) (aInN neg ai ao) := by
  intro σ s F C R H Q P hs hS h k
  refine hi σ s F C R H _ _ hs hS h fun y v F1 C1 H1 e1 S1 r1 h1 => ?_
  refine ho σ s F1 C1 R H1 _ _ (hs.mono e1) S1 h1 fun x w F2 C2 H2 e2 S2 r2 h2 => ?_
  split at h2
  · rename_i r q
    obtain ⟨a, o, rfl, g, g2⟩ := look_ok S2 r2 (r1.mono e2) q
    refine ⟨a, o, rfl, g, ?_⟩
    have : o.isSome = r.isSome := by
      cases r with
      | none => rw [show o = none from g2]; rfl
      | some d => obtain ⟨z, rfl, _⟩ := g2; rfl
    rw [this]
    exact k _ _ F2 C2 H2 (e1.trans e2) S2 (.bl _) h2
  · exact h2.elim
theorem at_notInN {g : Gd} (hu : X.A.units + 16 < cLine) (hi : AE B X i ti ai) (ho : AE B X o to ao) (hw : B.g = g := by first | rfl | assumption) (hX : (⟨X.w, X.mg⟩ : Gd) = g := by rfl) (h1 : behindInMarks .NotIn o = false := by rfl) : AT B X (.Compare i [.NotIn] [o] pos) (tTest (tDInN g.w true ti to)) (aB (aInN true ai ao)) :=
  ⟨by rw [← hX]; exact pt_cmp (pc_dnotinN hu hi.pe ho.pe) h1, by subst hw; exact sim_B (sim_inN true ho.sim hi.sim)⟩
def isDic (C : AH) (x : D) : Bool := (asK C x).isSome || (asN C x).isSome
def aGet1N (o i : AE') : AE' := fun s C P => o s C fun x C1 => isDic C1 x = true ∧ i s C1 fun y C2 => match lookD C2 x y with
  | some r => P (r.getD .non) C2
  | none => False
/-- d[k] = e -/
def aPutN (o i e : AE') : AS' := fun E s C => e s C fun d C1 => o s C1 fun x C2 => i s C2 fun y C3 => match x with
  | .ce p => (match C3 p with
    | some (.dk es) => (match keyOf y with | some k => es.length < sizeLine ∧ E.nx s (put C3 p (.dk (putD es k d))) | none => False)
    | some (.dn es) => (match keyT y with | some k => es.length < sizeLine ∧ E.nx s (put C3 p (.dn (putND es k d))) | none => False)
    | some (.dw none es) => (match keyT y with | some _ => es.length < sizeLine ∧ E.nx s (put C3 p (.dw none (putW es y d))) | none => False)
    | _ => False)
  | _ => False
theorem sim_putN (ho : SimE B K to ao) (hi : SimE B K ti ai) (he : SimE B K te a) : SimS B K (sDPutN B.g.w to ti te) (aPutN ao ai a) := fun D' E σ s F C R H hE hs hS h => by
  refine he σ s F C R H _ _ hs hS h fun d v F1 C1 H1 e1 S1 r1 h1 => ?_
  refine ho σ s F1 C1 R H1 _ _ (hs.mono e1) S1 h1 fun x w F2 C2 H2 e2 S2 r2 h2 => ?_
  refine hi σ s F2 C2 R H2 _ _ (hs.mono (e1.trans e2)) S2 h2 fun y u F3 C3 H3 e3 S3 r3 h3 => ?_
  split at h3
  · rename_i p
    cases r2
    split at h3
    · rename_i es q2
      split at h3
      · rename_i ky q1
        obtain ⟨hl, h3⟩ := h3
        obtain ⟨hF, ob, h4, h5⟩ := S3.cell p _ q2
        cases h5 with
        | dk h6 =>
          refine ⟨p, _, rfl, .inl ?_, hE.nx s σ F3 _ _ ((e1.trans e2).trans e3) (hs.mono ((e1.trans e2).trans e3)) (S3.mutC q2 (.dk (RepK.put ky (r1.mono (e2.trans e3)) h6))) h3⟩
          rw [keyOf_ok r3 q1]
          exact .k h4 (by rw [h6.length]; exact hl)
      · exact h3.elim
    · rename_i es q2
      split at h3
      · rename_i ky q1
        obtain ⟨hl, h3⟩ := h3
        obtain ⟨hF, ob, h4, h5⟩ := S3.cell p _ q2
        obtain ⟨b, rfl, g5, g6⟩ := keyT_ok r3 q1
        cases h5 with
        | dn h6 =>
          exact ⟨p, _, rfl, .inr ⟨_, ky, b, h4, fun z hz => ⟨(h6.keys z hz).1.mono S3.ex, (h6.keys z hz).2⟩, rfl, g5.mono S3.ex, g6, by rw [h6.len]; exact hl, rfl⟩,
            hE.nx s σ F3 _ _ ((e1.trans e2).trans e3) (hs.mono ((e1.trans e2).trans e3)) (S3.mutC q2 (.dn (RepN.put g5 g6 (r1.mono (e2.trans e3)) h6))) h3⟩
      · exact h3.elim
    · rename_i es q2
      split at h3
      · rename_i ky q1
        obtain ⟨hl, h3⟩ := h3
        obtain ⟨hF, ob, h4, h5⟩ := S3.cell p _ q2
        obtain ⟨b, rfl, g5, g6⟩ := keyT_ok r3 q1
        cases h5 with
        | dw h6 =>
          have h7 := h6.toN
          exact ⟨p, _, rfl, .inr ⟨_, ky, b, h4, fun z hz => ⟨(h7.keys z hz).1.mono S3.ex, (h7.keys z hz).2⟩, rfl, g5.mono S3.ex, g6, by rw [h7.len, keysW_len]; exact hl, rfl⟩,
            hE.nx s σ F3 _ _ ((e1.trans e2).trans e3) (hs.mono ((e1.trans e2).trans e3)) (S3.mutC q2 (.dw (RepW.put r3 q1 (r1.mono (e2.trans e3)) h6))) h3⟩
      · exact h3.elim
    · exact h3.elim
  · exact h3.elim
theorem as_putN {g : Gd} (hu : X.A.units + 16 < cLine) (ho : AE B X o to ao) (hi : AE B X i ti ai) (he : AE B X e te a) (hw : B.g = g := by first | rfl | assumption) (hX : (⟨X.w, X.mg⟩ : Gd) = g := by rfl) (hs : swapsWith e (some (.Subscript o i p2)) pos.line X.env = pure false := by rfl) : AS B X (.Assign [.Subscript o i p2] e pos) (sDPutN g.w to ti te) (aPutN ao ai a) :=
  ⟨by rw [← hX]; exact ps_dputN hu ho.pe hi.pe he.pe hs, by subst hw; exact sim_putN ho.sim hi.sim he.sim⟩
/-- {}, for tuples -/
def aDict0N : AE' := fun _ C P => ∀ p, C p = none → P (.ce p) (put C p (.dn []))
theorem sim_dict0N : SimE B K (tDNewN B.g.w) aDict0N := fun σ s F C R H Q P hs hS h k p hp => k _ _ F _ _ (Ex.refl F) (hS.newC hp (.dn .nil)) (.ce p) (h p (hS.freeC hp))
theorem ae_dict0N {g : Gd} (hw : B.g = g := by first | rfl | assumption) (hX : (⟨X.w, X.mg⟩ : Gd) = g := by rfl) : AE B X (.Dict [] [] pos) (tDNewN g.w) aDict0N := ⟨by rw [← hX]; exact pe_dnewN, by subst hw; exact sim_dict0N⟩
end
end AL
namespace AL
open PySem PySem.Spec PyProof.Rows L2
variable {B : Bs}
inductive HdsA (X : Cx) : List ExceptHandler → List (List Value × Nat × TS) → Prop
  | nil : HdsA X [] []
  | cons {x n : Str} {c : Value} {i : Nat} {ts : TS} {b₀ : Stmt} {suite : List Stmt} {np pos' : Pos} {hds : List ExceptHandler} {l : List (List Value × Nat × TS)} (hc : Names X x c) (hi : X.N[i]? = some n) (hln : X.env.kindOf n = some .local)
      (hsu : ∀ (a : Addr) (pn : List (Addr × Obj)), PSs (X.suite a pn) (b₀ :: suite) ts) (r : HdsA X hds l) (h9 : i ≠ 999) :
      HdsA X (.ExceptHandler (some (.Name x np)) (some n) (b₀ :: suite) pos' :: hds) (([c], i, ts) :: l)
  | cons2 {x x2 n : Str} {c c2 : Value} {i kk : Nat} {ts : TS} {b₀ : Stmt} {suite : List Stmt} {np np2 tp pos' : Pos} {hds : List ExceptHandler} {l : List (List Value × Nat × TS)} (hc : Names X x c) (hc2 : Names X x2 c2) (hi : X.N[i]? = some n) (hln : X.env.kindOf n = some .local)
      (hsu : ∀ (a : Addr) (pn : List (Addr × Obj)), PSs (X.suite a pn) (b₀ :: suite) ts) (r : HdsA X hds l) (h9 : i ≠ 999) :
      HdsA X (.ExceptHandler (some (.Tuple [.Name x np, .Name x2 np2] kk tp)) (some n) (b₀ :: suite) pos' :: hds) (([c, c2], i, ts) :: l)
  | cons3 {x x2 x3 : Str} {c c2 c3 : Value} {kk : Nat} {ts : TS} {b₀ : Stmt} {suite : List Stmt} {np np2 np3 tp pos' : Pos} {hds : List ExceptHandler} {l : List (List Value × Nat × TS)} (hc : Names X x c) (hc2 : Names X x2 c2) (hc3 : Names X x3 c3)
      (hsu : ∀ (a : Addr) (oe : Obj) (pn : List (Addr × Obj)), PSs (X.suite a ((a, oe) :: pn)) (b₀ :: suite) ts) (r : HdsA X hds l) :
      HdsA X (.ExceptHandler (some (.Tuple [.Name x np, .Name x2 np2, .Name x3 np3] kk tp)) none (b₀ :: suite) pos' :: hds) (([c, c2, c3], 999, ts) :: l)
end AL
namespace AL
open PySem PySem.Spec PyProof.Rows L2
variable {B : Bs}
def goneA (i : Nat) (E : AEnds) : AEnds := ⟨fun s C => E.nx (s.set i none) C, E.rt, fun s C => E.bk (s.set i none) C, fun s C => E.ct (s.set i none) C⟩
/-- whether a class is below one of some, where each is known -/
def anyS (sub : Str → Str → Option Bool) (nm : Str) : List Str → Option Bool
  | [] => some false
  | c :: r => match sub nm c, anyS sub nm r with
    | some b, some d => some (b || d)
    | _, _ => none
def aHandA (sub : Str → Str → Option Bool) (Wout : AX') (E : AEnds) : List (List Str × Nat × AS') → AX'
  | [] => Wout
  | (c, i, h) :: r => fun s nm C => match anyS sub nm c with | some true => if i = 999 then h E s C else nm ≠ "NoSentence" ∧ ∀ a, C a = none → h (goneA i E) (s.set i (some (.ce a))) (put C a (.exc nm)) | some false => aHandA sub Wout E r s nm C | none => False
def aTryA (sub : Str → Str → Option Bool) (body : AX' → AS') (hds : List (List Str × Nat × AS')) (Wout : AX') : AS' := fun E s C => body (aHandA sub Wout E hds) E s C
inductive AHdsA (X : Cx) : List ExceptHandler → List (List Value × Nat × TS) → List (List Str × Nat × AS') → Prop
  | nil : AHdsA X [] [] []
  | cons {x n : Str} {c : Value} {i : Nat} {ts : TS} {ha : AS'} {b₀ : Stmt} {suite : List Stmt} {np pos' : Pos} {hds : List ExceptHandler} {l : List (List Value × Nat × TS)} {la : List (List Str × Nat × AS')} (hm : X.mg x = some c) (hg : Gl X x) (hdb : (x == ("__debug__" : Str)) = false)
      (hi : X.N[i]? = some n) (hln : X.env.kindOf n = some .local)
      (hsu : ∀ (B : Bs) (hw : B.g = ⟨X.w, X.mg⟩) (a : Addr) (pn : List (Addr × Obj)), ASs B (X.suite a pn) (b₀ :: suite) ts ha) (r : AHdsA X hds l la) (h9 : i ≠ 999 := by decide) :
      AHdsA X (.ExceptHandler (some (.Name x np)) (some n) (b₀ :: suite) pos' :: hds) (([c], i, ts) :: l) (([x], i, ha) :: la)
  | cons2 {x x2 n : Str} {c c2 : Value} {i kk : Nat} {ts : TS} {ha : AS'} {b₀ : Stmt} {suite : List Stmt} {np np2 tp pos' : Pos} {hds : List ExceptHandler} {l : List (List Value × Nat × TS)} {la : List (List Str × Nat × AS')} (hm : X.mg x = some c) (hg : Gl X x) (hdb : (x == ("__debug__" : Str)) = false)
      (hm2 : X.mg x2 = some c2) (hg2 : Gl X x2) (hdb2 : (x2 == ("__debug__" : Str)) = false) (hi : X.N[i]? = some n) (hln : X.env.kindOf n = some .local)
      (hsu : ∀ (B : Bs) (hw : B.g = ⟨X.w, X.mg⟩) (a : Addr) (pn : List (Addr × Obj)), ASs B (X.suite a pn) (b₀ :: suite) ts ha) (r : AHdsA X hds l la) (h9 : i ≠ 999 := by decide) :
      AHdsA X (.ExceptHandler (some (.Tuple [.Name x np, .Name x2 np2] kk tp)) (some n) (b₀ :: suite) pos' :: hds) (([c, c2], i, ts) :: l) (([x, x2], i, ha) :: la)
  | cons3 {x x2 x3 : Str} {c c2 c3 : Value} {kk : Nat} {ts : TS} {ha : AS'} {b₀ : Stmt} {suite : List Stmt} {np np2 np3 tp pos' : Pos} {hds : List ExceptHandler} {l : List (List Value × Nat × TS)} {la : List (List Str × Nat × AS')} (hm : X.mg x = some c) (hg : Gl X x) (hdb : (x == ("__debug__" : Str)) = false)
      (hm2 : X.mg x2 = some c2) (hg2 : Gl X x2) (hdb2 : (x2 == ("__debug__" : Str)) = false) (hm3 : X.mg x3 = some c3) (hg3 : Gl X x3) (hdb3 : (x3 == ("__debug__" : Str)) = false)
      (hsu : ∀ (B : Bs) (hw : B.g = ⟨X.w, X.mg⟩) (a : Addr) (oe : Obj) (pn : List (Addr × Obj)), ASs B (X.suite a ((a, oe) :: pn)) (b₀ :: suite) ts ha) (r : AHdsA X hds l la) :
      AHdsA X (.ExceptHandler (some (.Tuple [.Name x np, .Name x2 np2, .Name x3 np3] kk tp)) none (b₀ :: suite) pos' :: hds) (([c, c2, c3], 999, ts) :: l) (([x, x2, x3], 999, ha) :: la)
section
variable {X : Cx} {body : List Stmt} {h₀ : ExceptHandler} {hds : List ExceptHandler} {l : List (List Value × Nat × TS)} {la : List (List Str × Nat × AS')} {pos : Pos} {tb : WX → TS} {W : AX'} {Wk : WX} {ab : AX' → AS'} {sub : Str → Str → Option Bool}
theorem AHdsA.ok {hds : List ExceptHandler} (h : AHdsA X hds l la) : HdsA X hds l := by
  induction h with
  | nil => exact .nil
  | cons hm hg hdb hi hln hsu r h9 ih => exact .cons ⟨hg, hdb, .inl hm⟩ hi hln (fun a pn => (hsu (Bs.nil ⟨X.w, X.mg⟩) rfl a pn).ps) ih h9
  | cons2 hm hg hdb hm2 hg2 hdb2 hi hln hsu r h9 ih => exact .cons2 ⟨hg, hdb, .inl hm⟩ ⟨hg2, hdb2, .inl hm2⟩ hi hln (fun a pn => (hsu (Bs.nil ⟨X.w, X.mg⟩) rfl a pn).ps) ih h9
  | cons3 hm hg hdb hm2 hg2 hdb2 hm3 hg3 hdb3 hsu r ih => exact .cons3 ⟨hg, hdb, .inl hm⟩ ⟨hg2, hdb2, .inl hm2⟩ ⟨hg3, hdb3, .inl hm3⟩ (fun a oe pn => (hsu (Bs.nil ⟨X.w, X.mg⟩) rfl a oe pn).ps) ih
end
section
variable {C : AH} {W : AX'} {E : AEnds} {s : ASt}
theorem g_tryA {sub : Str → Str → Option Bool} {body : AX' → AS'} {hds : List (List Str × Nat × AS')} (h : body (aHandA sub W E hds) E s C) : aTryA sub body hds W E s C := h
end
end AL
namespace AL
open PySem PySem.Spec PyProof.Rows L2
variable {B : Bs}
/-- a class by its name: an own one, or the built-in ValueError -/
def clsN (mg : Str → Option Value) (c : Str) (u : Value) : Prop := (mg c = some u ∧ ∃ C, u = .ref C) ∨ (c = "ValueError" ∧ u = .type "ValueError")
/-- what is known of which class an exception is -/
def IsF (K : PySem.W.Frag) (mg : Str → Option Value) (isub : Str → Str → Option Bool) : Prop := ∀ nm c b cls u, isub nm c = some b → mg nm = some cls → clsN mg c u → ∃ D, cls = .ref D ∧ ExcC K D ∧ PySem.W.kitOne K cls u = some b
def isAny (isub : Str → Str → Option Bool) (nm : Str) : List Str → Option Bool
  | [] => some false
  | c :: r => match isub nm c with
    | some true => some true
    | some false => isAny isub nm r
    | none => none
def aIsX (isub : Str → Str → Option Bool) (cs : List Str) (a : AE') : AE' := fun s C P => a s C fun d C1 => match d with
  | .ce p => (match C1 p with | some (.exc nm) => (match isAny isub nm cs with | some b => P (.bl b) C1 | none => False) | _ => False)
  | _ => False
/-- a class's expression -/
structure AC (X : Cx) (e : Expr) (v : V) (u : Value) (x : Str) : Prop where
  pe : PE X e (tC v)
  cv : ClsV v u
  cn : clsN X.mg x u
inductive ACs (X : Cx) : List Expr → TA → List V → List Value → List Str → Prop
  | nil : ACs X [] tNil [] [] []
  | cons {e : Expr} {es : List Expr} {v : V} {u : Value} {x : Str} {t : TA} {vs : List V} {us : List Value} {xs : List Str} (h : AC X e v u x) (r : ACs X es t vs us xs) (he : starEach (e :: es) X.env = (false, eval e X.env) :: starEach es X.env) :
      ACs X (e :: es) (tCons (tC v) t) (v :: vs) (u :: us) (x :: xs)
section
variable {X : Cx} {es : List Expr} {t : TA} {vs : List V} {us : List Value} {xs : List Str}
theorem ACs.pa (h : ACs X es t vs us xs) : PA X es t := by
  induction h with
  | nil => exact pa_nil
  | cons h r he ih => exact pa_cons h.pe ih he
theorem ACs.run (h : ACs X es t vs us xs) : ∀ {σ : L2.St} {H : Hp} {Q : List V → Hp → Prop}, Q vs H → t σ H Q := by
  induction h with
  | nil => exact fun q => q
  | cons h r he ih => exact fun {σ H Q} q => ih (Q := fun ws H2 => Q (_ :: ws) H2) q
theorem ACs.len (h : ACs X es t vs us xs) : vs.length = es.length := by
  induction h with
  | nil => rfl
  | cons h r he ih => rw [List.length_cons, List.length_cons, ih]
theorem ACs.any (h : ACs X es t vs us xs) {isub : Str → Str → Option Bool} (f : IsF X.K X.mg isub) {nm : Str} {cls : Value} {b : Bool} (hm : X.mg nm = some cls) : isAny isub nm xs = some b → PySem.W.kitAny X.K cls us = some b := by
  induction h with
  | nil => exact fun e => e
  | @cons e es v u x t vs us xs h r he ih =>
    intro e
    unfold isAny at e
    unfold PySem.W.kitAny
    split at e
    · rename_i q
      obtain ⟨D, _, _, k⟩ := f nm x true cls u q hm h.cn
      rw [k]
      exact e
    · rename_i q
      obtain ⟨D, _, _, k⟩ := f nm x false cls u q hm h.cn
      rw [k]
      exact ih e
    · cases e
end
section
variable {C : AH} {P : D → AH → Prop} {s : ASt} {e : AE'}
def kIsX (isub : Str → Str → Option Bool) (cs : List Str) (P : D → AH → Prop) : D → AH → Prop := fun d C1 => match d with
  | .ce p => (match C1 p with | some (.exc nm) => (match isAny isub nm cs with | some b => P (.bl b) C1 | none => False) | _ => False)
  | _ => False
theorem g_isX {isub : Str → Str → Option Bool} {cs : List Str} (h : e s C (kIsX isub cs P)) : aIsX isub cs e s C P := h
end
end AL
namespace AL
open PySem PySem.Spec PyProof.Rows L2
end AL
namespace AL
open PySem L2
theorem hu16 {k : Nat} {A : Around} (r : Room k A) : A.units + 16 < cLine := by
  have := u200 r
  omega
end AL
namespace AL
open PySem L2
theorem valD_put (es : List (Key × D)) (k k' : Key) (d : D) : valD (putD es k d) k' = if k' = k then some d else valD es k' := by
  induction es with
  | nil =>
    unfold putD
    rw [if_neg (by simp)]
    by_cases e : k' = k
    · subst e; simp [valD]
    · rw [if_neg e]
      have : ¬ k = k' := fun z => e z.symm
      simp [valD, this]
  | cons x es ih =>
    unfold putD at ih ⊢
    by_cases hx : x.1 = k
    · rw [if_pos (by simp [hx])]
      rw [List.map_cons, if_pos hx]
      by_cases e : k' = k
      · subst e
        rw [if_pos rfl]
        simp [valD, hx]
      · rw [if_neg e]
        have hne : ¬ x.1 = k' := fun z => e (by rw [← z, hx])
        have ih2 : valD (es.map fun kv => if kv.1 = k then (kv.1, d) else kv) k' = valD es k' := by
          by_cases ha : (es.any fun kv => decide (kv.1 = k)) = true
          · rw [if_pos ha, if_neg e] at ih; exact ih
          · have : es.map (fun kv => if kv.1 = k then (kv.1, d) else kv) = es := by
              refine (List.map_congr_left fun kv hkv => ?_).trans (List.map_id es)
              have : ¬ kv.1 = k := fun z => ha (List.any_eq_true.mpr ⟨kv, hkv, decide_eq_true z⟩)
              rw [if_neg this]; rfl
            rw [this]
        simp only [valD, List.find?_cons, decide_eq_false hne] at ih2 ⊢
        exact ih2
    · by_cases ha : (es.any fun kv => decide (kv.1 = k)) = true
      · rw [if_pos ha] at ih
        rw [if_pos (by simp only [List.any_cons, ha, Bool.or_true])]
        rw [List.map_cons, if_neg hx]
        by_cases h2 : x.1 = k'
        · have e : ¬ k' = k := fun z => hx (h2.trans z)
          rw [if_neg e]
          simp [valD, h2]
        · simp only [valD, List.find?_cons, decide_eq_false h2] at ih ⊢
          exact ih
      · rw [if_neg ha] at ih
        rw [if_neg (by simp only [List.any_cons, decide_eq_false hx, Bool.false_or]; exact ha)]
        rw [List.cons_append]
        by_cases h2 : x.1 = k'
        · have e : ¬ k' = k := fun z => hx (h2.trans z)
          rw [if_neg e]
          simp [valD, h2]
        · simp only [valD, List.find?_cons, decide_eq_false h2] at ih ⊢
          exact ih
/-- a dict with numbers from 0 for keys, as what it holds -/
structure Mp (es : List (Key × D)) (L : List Nat) (f : Nat → Option D) : Prop where
  ky : Ky es L
  nd : L.Nodup
  at' : ∀ m, valD es (nk m) = f m
theorem Mp.nil : Mp [] [] fun _ => none := ⟨rfl, List.nodup_nil, fun _ => rfl⟩
theorem Mp.put {es : List (Key × D)} {L : List Nat} {f : Nat → Option D} (h : Mp es L f) (n : Nat) (d : D) : Mp (putD es (nk n) d) (addN L n) fun m => if m = n then some d else f m := by
  refine ⟨h.ky.put n, nodup_addN h.nd, fun m => ?_⟩
  rw [valD_put, h.at']
  by_cases e : m = n
  · subst e; rw [if_pos rfl, if_pos rfl]
  · rw [if_neg e, if_neg (fun z => e (nk_inj z))]
section
variable {C : AH} {P : D → AH → Prop} {s : ASt} {q : Addr} {es : List (Key × D)} {o i e : AE'} {nx : ASt → AH → Prop} {rt : D → AH → Prop} {bk ct : ASt → AH → Prop}
def kGetN (x : D) (P : D → AH → Prop) : D → AH → Prop := fun y C2 => match lookD C2 x y with
  | some (some d) => P d C2
  | _ => False
theorem g_getN (h : o s C fun x C1 => i s C1 (kGetN x P)) : aGetN o i s C P := h
def kInN (neg : Bool) (y : D) (P : D → AH → Prop) : D → AH → Prop := fun x C2 => match lookD C2 x y with
  | some r => P (.bl (if neg then !r.isSome else r.isSome)) C2
  | none => False
theorem g_inN {neg : Bool} (h : i s C fun y C1 => o s C1 (kInN neg y P)) : aInN neg i o s C P := h
theorem g_kInN {neg : Bool} {x y : D} {r : Option D} (h1 : lookD C x y = some r) (h : P (.bl (if neg then !r.isSome else r.isSome)) C) : kInN neg y P x C := by
  unfold kInN
  rw [h1]
  exact h
def kGet1N (i : AE') (s : ASt) (P : D → AH → Prop) : D → AH → Prop := fun x C1 => isDic C1 x = true ∧ i s C1 fun y C2 => match lookD C2 x y with
  | some r => P (r.getD .non) C2
  | none => False
theorem g_get1N (h : o s C (kGet1N i s P)) : aGet1N o i s C P := h
def kPutN (d x : D) (nx : ASt → AH → Prop) (s : ASt) : D → AH → Prop := fun y C3 => match x with
  | .ce p => (match C3 p with
    | some (.dk es) => (match AL.keyOf y with | some k => es.length < sizeLine ∧ nx s (put C3 p (.dk (putD es k d))) | none => False)
    | some (.dn es) => (match keyT y with | some k => es.length < sizeLine ∧ nx s (put C3 p (.dn (putND es k d))) | none => False)
    | some (.dw none es) => (match keyT y with | some _ => es.length < sizeLine ∧ nx s (put C3 p (.dw none (putW es y d))) | none => False)
    | _ => False)
  | _ => False
theorem g_putN (h : e s C fun d C1 => o s C1 fun x C2 => i s C2 (kPutN d x nx s)) : aPutN o i e ⟨nx, rt, bk, ct⟩ s C := h
theorem g_kPutN {d y : D} {k : NestedKey} {es : List (NestedKey × D)} (hC : C q = some (.dn es)) (h2 : keyT y = some k) (hl : es.length < sizeLine) (h : nx s (put C q (.dn (putND es k d)))) : kPutN d (.ce q) nx s y C := by
  unfold kPutN
  simp only [hC, h2]
  exact ⟨hl, h⟩
theorem lookD_dn {es : List (NestedKey × D)} {y : D} {k : NestedKey} (hC : C q = some (.dn es)) (h : keyT y = some k) : lookD C (.ce q) y = some (valND es k) := by
  unfold lookD
  simp only [asK, asN, hC, h]
end
end AL
namespace AL
open PySem L2
/-- a dict from numbers to numbers -/
abbrev Mn (es : List (Key × D)) (L : List Nat) (f : Nat → Option Nat) : Prop := Mp es L fun m => (f m).map fun (v : Nat) => D.int (v : Int)
theorem Mn.put {es : List (Key × D)} {L : List Nat} {f : Nat → Option Nat} (h : Mn es L f) (n v : Nat) : Mn (putD es (nk n) (.int (v : Int))) (addN L n) fun m => if m = n then some v else f m := by
  have := Mp.put h n (.int (v : Int))
  refine ⟨this.ky, this.nd, fun m => ?_⟩
  rw [this.at' m]
  by_cases e : m = n
  · simp [e]
  · simp [e]
end AL
namespace AL
open PySem PySem.Spec PyProof.Rows L2
end AL
namespace AL
open PySem PySem.Spec PyProof.Rows L2
variable {B : Bs}
section
variable {X : Cx} {K : PySem.W.Frag}
def rInsert : V → List V → Hp → VK → Prop := fun x vs H Q => ∃ (l : Addr) (xs : List V) (i : Int) (y : V), x = .ref l ∧ vs = [.int i, y] ∧ H l = some (.lst xs) ∧ xs.length < sizeLine ∧ 0 ≤ i ∧ i < 2 ^ 63 ∧
    Q .non (upd H l (.lst (xs.take i.toNat ++ [y] ++ xs.drop i.toNat)))
def aInsert : D → ASp := fun x ds C P => match x, ds with
  | .ce p, [.int i, d] => (match C p with | some (.lst us) => us.length < sizeLine ∧ 0 ≤ i ∧ i < 2 ^ 63 ∧ P .non (put C p (.lst (us.take i.toNat ++ [d] ++ us.drop i.toNat))) | _ => False)
  | _, _ => False
theorem am_insert : AMt B X "list.insert" rInsert aInsert := ⟨fun pins s σ H x xs v us Q I r1 r2 h => mt_insert pins s σ H x xs v us Q I r1 r2 h, by
  intro v d vs ds F C R H Q P hS r1 r2 h k
  unfold aInsert at h
  split at h
  · cases r1
    cases r2 with
    | cons ri r2 =>
      cases r2 with
      | cons r2 r3 =>
        cases r3
        cases ri
        split at h
        · rename_i e
          obtain ⟨xs, h1, h2⟩ := cellL hS e
          exact ⟨_, xs, _, _, rfl, rfl, h1, by rw [h2.length]; exact h.1, h.2.1, h.2.2.1, k _ _ F _ _ (Ex.refl F) (hS.mutC e (.lst (((h2.take _).append (.cons r2 .nil)).append (h2.drop _)))) .non h.2.2.2⟩
        · exact h.elim
  · exact h.elim⟩
end
section
variable {C : AH} {P : D → AH → Prop}
theorem g_insert {p : Addr} {us : List D} {i : Nat} {d : D} (h0 : C p = some (.lst us)) (h1 : us.length < sizeLine) (h2 : i < 2 ^ 62) (h : P .non (put C p (.lst (us.take i ++ [d] ++ us.drop i)))) : aInsert (.ce p) [.int (i : Int), d] C P := by
  unfold aInsert
  simp only [h0]
  exact ⟨h1, by omega, by omega, by rw [Int.toNat_natCast]; exact h⟩
end
end AL
namespace AL
open PySem PySem.Spec PyProof.Rows L2
variable {B : Bs}
theorem hu65 {k : Nat} {A : Around} (r : Room k A) : A.units + 65 < cLine := by
  have := r.un
  omega
end AL
namespace AL
open PySem PySem.Spec PyProof.Rows L2
variable {B : Bs}
def mapPd (f : D → Option PyData) : List D → Option (List PyData)
  | [] => some []
  | d :: ds => match f d, mapPd f ds with | some x, some xs => some (x :: xs) | _, _ => none
def pdD (C : AH) : Nat → D → Option PyData
  | 0, d => pdC C d
  | n + 1, .ce p => match C p with | some (.lst ds) => (mapPd (pdD C n) ds).map .list | _ => none
  | n + 1, .lst ds => (mapPd (pdD C n) ds).map .list
  | n + 1, .tup ds => (mapPd (pdD C n) ds).map .tuple
  | _ + 1, d => pdC C d
section
variable {X : Cx} {K : PySem.W.Frag}
theorem mapPd_ok {F : Hp} {H : Hp} {f : D → Option PyData} (hf : ∀ v d x, Rep K F v d → f d = some x → Dp K H v x) : ∀ {vs : List V} {ds : List D} {xs : List PyData}, RepL K F vs ds → mapPd f ds = some xs → DpAll K H vs xs
  | _, [], _, .nil, h => by cases h; exact .nil
  | _, d :: ds, _, .cons r1 r2, h => by
    unfold mapPd at h
    split at h
    · rename_i q1 q2
      cases h
      exact .cons (hf _ _ _ r1 q1) (mapPd_ok hf r2 q2)
    · cases h
theorem pdD_ok {F : Hp} {C : AH} {R H : Hp} (hS : Sat B K F C R H) : ∀ (n : Nat) (v : V) (d : D) (x : PyData), Rep K F v d → pdD C n d = some x → Dp K H v x
  | 0, v, d, x, r, h => pdC_ok hS r h
  | n + 1, v, d, x, r, h => by
    cases d with
    | ce p =>
      cases r
      unfold pdD at h
      split at h
      · rename_i ds e
        cases q : mapPd (pdD C n) ds with
        | none => rw [q] at h; cases h
        | some xs =>
          rw [q] at h; cases h
          obtain ⟨_, o, h1, h2⟩ := hS.cell p _ e
          cases h2 with
          | lst h3 => exact .lst (SqL.of h1) (mapPd_ok (pdD_ok hS n) h3 q)
      · cases h
    | lst ds =>
      cases r with
      | lst h1 h2 =>
        unfold pdD at h
        cases q : mapPd (pdD C n) ds with
        | none => rw [q] at h; cases h
        | some xs => rw [q] at h; cases h; exact .lst (SqL.of (hS.ex _ _ h1)) (mapPd_ok (pdD_ok hS n) h2 q)
    | tup ds =>
      cases r with
      | tup h1 h2 =>
        unfold pdD at h
        cases q : mapPd (pdD C n) ds with
        | none => rw [q] at h; cases h
        | some xs => rw [q] at h; cases h; exact .tup (h1.sq hS.ex) (mapPd_ok (pdD_ok hS n) h2 q)
    | _ => exact pdC_ok hS r h
def aEqD (neg : Bool) : D → D → AH → (D → AH → Prop) → Prop := fun x y C P => aEqN neg x y C P ∨ ∃ n d e, pdD C n x = some d ∧ pdD C n y = some e ∧ SeqAt.shaped d = true ∧ SeqAt.shaped e = true ∧ P (.bl (if neg then !PyData.eqv d e else PyData.eqv d e)) C
theorem ao_eqDc (hu : X.A.units + 64 < cLine) (hK : X.K = K := by rfl) : AOp B X (compareOp .Eq) (fun x y H Q => rEq x y H Q ∨ rEqD K x y H Q) (aEqD false) := by
  subst hK
  refine ⟨op_eq.or (op_eqD hu), ?_⟩
  intro v w d e F C R H Q P hS r1 r2 h k
  rcases h with h | ⟨n, d', e', h1, h2, s1, s2, h3⟩
  · exact (sim_eq (B := B)) v w d e F C R H Q P hS r1 r2 h k
  · exact .inr ⟨d', e', pdD_ok hS n _ _ _ r1 h1, pdD_ok hS n _ _ _ r2 h2, s1, s2, k _ _ F C H (Ex.refl F) hS (.bl _) h3⟩
theorem ao_neDc (hu : X.A.units + 64 < cLine) (hK : X.K = K := by rfl) : AOp B X (compareOp .NotEq) (fun x y H Q => rNe x y H Q ∨ rNeD K x y H Q) (aEqD true) := by
  subst hK
  refine ⟨op_ne.or (op_neD hu), ?_⟩
  intro v w d e F C R H Q P hS r1 r2 h k
  rcases h with h | ⟨n, d', e', h1, h2, s1, s2, h3⟩
  · exact (sim_ne (B := B)) v w d e F C R H Q P hS r1 r2 h k
  · exact .inr ⟨d', e', pdD_ok hS n _ _ _ r1 h1, pdD_ok hS n _ _ _ r2 h2, s1, s2, k _ _ F C H (Ex.refl F) hS (.bl _) h3⟩
end
section
variable {C : AH} {P : D → AH → Prop}
theorem g_eqDp {x y : D} (n : Nat) {u v : PyData} (h1 : pdD C n x = some u) (h2 : pdD C n y = some v) (h3 : SeqAt.shaped u = true) (h4 : SeqAt.shaped v = true) (h : P (.bl (PyData.eqv u v)) C) : aEqD false x y C P := .inr ⟨n, u, v, h1, h2, h3, h4, h⟩
theorem g_neDp {x y : D} (n : Nat) {u v : PyData} (h1 : pdD C n x = some u) (h2 : pdD C n y = some v) (h3 : SeqAt.shaped u = true) (h4 : SeqAt.shaped v = true) (h : P (.bl (!PyData.eqv u v)) C) : aEqD true x y C P := .inr ⟨n, u, v, h1, h2, h3, h4, h⟩
end
end AL
namespace AL
open PySem PySem.Spec PyProof.Rows L2
end AL
namespace AL
open PySem PySem.Spec PyProof.Rows L2
end AL
namespace AL
open PySem PySem.Spec PyProof.Rows L2
end AL
namespace AL
open PySem PySem.Spec PyProof.Rows L2
open PyProof.Rows (envOfC)
variable {B : Bs}
theorem Sat.room {K : PySem.W.Frag} {F : Hp} {C : AH} {R H : Hp} {p : Addr} (S : Sat B K F C R H) (h : H p = none) (o : HO) : Sat B K F C R (upd H p o) :=
  ⟨S.bF, S.bR, fun a u e => by rw [upd_ne (ne_of_none (S.ex a u e) h)]; exact S.ex _ _ e,
    fun q c e => let ⟨h1, u, h2, h3⟩ := S.cell q c e; ⟨h1, u, by rw [upd_ne (ne_of_none h2 h)]; exact h2, h3⟩,
    fun q u e => let ⟨h1, h2, h3⟩ := S.priv q u e; ⟨h1, h2, by rw [upd_ne (ne_of_none h3 h)]; exact h3⟩⟩
def putFD (f : Str) (v : D) : List (Str × D) → List (Str × D)
  | [] => [(f, v)]
  | (g, x) :: r => if g = f then (g, v) :: r else (g, x) :: putFD f v r
theorem RepF.put {K : PySem.W.Frag} {F : Hp} {f : Str} {v : V} {d : D} (q : Rep K F v d) : ∀ {fs : List (Str × V)} {es : List (Str × D)}, RepF K F fs es → RepF K F (putF f v fs) (putFD f d es)
  | _, _, .nil => .cons q .nil
  | _, _, .cons (k := k) r t => by
    unfold putF putFD
    by_cases h : k = f
    · rw [if_pos h, if_pos h]; exact .cons q t
    · rw [if_neg h, if_neg h]; exact .cons r (RepF.put q t)
theorem RepF.length {K : PySem.W.Frag} {F : Hp} : ∀ {fs : List (Str × V)} {es : List (Str × D)}, RepF K F fs es → fs.length = es.length
  | _, _, .nil => rfl
  | _, _, .cons _ t => by rw [List.length_cons, List.length_cons, RepF.length t]
/-- o.f -/
def aFld (nm f : Str) (a : AE') : AE' := fun s C P => a s C fun x C1 => match x with
  | .ce p => (match C1 p with | some (.ob n es) => n = nm ∧ (match es.lookup f with | some d => P d C1 | none => False) | _ => False)
  | _ => False
/-- o.f = e -/
def aFldPut (nm f : Str) (o v : AE') : AS' := fun E s C => v s C fun y C1 => o s C1 fun x C2 => match x with
  | .ce p => (match C2 p with | some (.ob n es) => n = nm ∧ es.length < 1000 ∧ E.nx s (put C2 p (.ob nm (putFD f y es))) | _ => False)
  | _ => False
/-- o.m(..) -/
def aMth (nm m : Str) (asp : ASp) (o : AE') (a : AA') : AE' := fun s C P => o s C fun x C1 => match x with
  | .ce p => (match C1 p with | some (.ob n es) => n = nm ∧ es.lookup m = none ∧ a s C1 fun ds C2 => asp (.ce p :: ds) C2 P | _ => False)
  | _ => False
def aMthX (W : AX') (nm m : Str) (asp : ASpX) (o : AE') (a : AA') : AE' := fun s C P => o s C fun x C1 => match x with
  | .ce p => (match C1 p with | some (.ob n es) => n = nm ∧ es.lookup m = none ∧ a s C1 fun ds C2 => asp (.ce p :: ds) C2 P (W s) | _ => False)
  | _ => False
/-- C(..) -/
def aMake (nm : Str) (asp : ASp) (a : AA') : AE' := fun s C P => a s C fun ds C1 => ∀ p, C1 p = none → asp (.ce p :: ds) (put C1 p (.ob nm [])) fun v C2 => v = .non ∧ P (.ce p) C2
def aSetd (o i e : AE') : AE' := fun s C P => o s C fun x C1 => (asK C1 x).isSome = true ∧ i s C1 fun y C2 => e s C2 fun z C3 => match x, keyOf y with
  | .ce p, some k => (match C3 p with | some (.dk es) => es.length < sizeLine ∧ (match valD es k with | some d => P d C3 | none => P z (put C3 p (.dk (putD es k z)))) | _ => False)
  | _, _ => False
end AL
namespace AL
open PySem L2
section
variable {C : AH} {P : D → AH → Prop} {s : ASt} {q : Addr} {es : List (Str × D)} {o v a i e : AE'} {as : AA'} {asp : ASp} {nm f m : Str} {nx : ASt → AH → Prop} {rt : D → AH → Prop} {bk ct : ASt → AH → Prop}
def kFld (nm f : Str) (P : D → AH → Prop) : D → AH → Prop := fun x C1 => match x with
  | .ce p => (match C1 p with | some (.ob n es) => n = nm ∧ (match es.lookup f with | some d => P d C1 | none => False) | _ => False)
  | _ => False
theorem g_fld (h : a s C (kFld nm f P)) : aFld nm f a s C P := h
def kFldPut (nm f : Str) (y : D) (nx : ASt → AH → Prop) (s : ASt) : D → AH → Prop := fun x C2 => match x with
  | .ce p => (match C2 p with | some (.ob n es) => n = nm ∧ es.length < 1000 ∧ nx s (put C2 p (.ob nm (putFD f y es))) | _ => False)
  | _ => False
theorem g_fldPut (h : v s C fun y C1 => o s C1 (kFldPut nm f y nx s)) : aFldPut nm f o v ⟨nx, rt, bk, ct⟩ s C := h
def kMth (nm m : Str) (asp : ASp) (as : AA') (s : ASt) (P : D → AH → Prop) : D → AH → Prop := fun x C1 => match x with
  | .ce p => (match C1 p with | some (.ob n es) => n = nm ∧ es.lookup m = none ∧ as s C1 fun ds C2 => asp (.ce p :: ds) C2 P | _ => False)
  | _ => False
theorem g_mth (h : o s C (kMth nm m asp as s P)) : aMth nm m asp o as s C P := h
def kMthX (W : AX') (nm m : Str) (asp : ASpX) (as : AA') (s : ASt) (P : D → AH → Prop) : D → AH → Prop := fun x C1 => match x with
  | .ce p => (match C1 p with | some (.ob n es) => n = nm ∧ es.lookup m = none ∧ as s C1 fun ds C2 => asp (.ce p :: ds) C2 P (W s) | _ => False)
  | _ => False
theorem g_mthX {W : AX'} {asp : ASpX} (h : o s C (kMthX W nm m asp as s P)) : aMthX W nm m asp o as s C P := h
theorem g_make (h : as s C fun ds C1 => ∀ p, C1 p = none → asp (.ce p :: ds) (put C1 p (.ob nm [])) fun v C2 => v = .non ∧ P (.ce p) C2) : aMake nm asp as s C P := h
def kSetd2 (x y : D) (P : D → AH → Prop) : D → AH → Prop := fun z C3 => match x, AL.keyOf y with
  | .ce p, some k => (match C3 p with | some (.dk es) => es.length < sizeLine ∧ (match valD es k with | some d => P d C3 | none => P z (put C3 p (.dk (putD es k z)))) | _ => False)
  | _, _ => False
def kSetd (i e : AE') (s : ASt) (P : D → AH → Prop) : D → AH → Prop := fun x C1 => (asK C1 x).isSome = true ∧ i s C1 fun y C2 => e s C2 (kSetd2 x y P)
theorem g_setd (h : o s C (kSetd i e s P)) : aSetd o i e s C P := h
end
end AL
namespace AL
open PySem PySem.Spec PyProof.Rows L2
end AL
namespace AL
open PySem PySem.Spec PyProof.Rows L2
variable {B : Bs}
def aChain3 (r r' r'' : D → D → AH → (D → AH → Prop) → Prop) (a b c d : AE') : AE' := fun s C P => a s C fun x C1 => b s C1 fun y C2 => r x y C2 fun z C3 => match z with
  | .bl true => c s C3 fun w C4 => r' y w C4 fun z2 C5 => (match z2 with
    | .bl true => d s C5 fun v C6 => r'' w v C6 P
    | .bl false => P (.bl false) C5
    | _ => False)
  | .bl false => P (.bl false) C3
  | _ => False
section
variable {C : AH} {P : D → AH → Prop} {s : ASt} {a b c d : AE'} {r r' r'' : D → D → AH → (D → AH → Prop) → Prop}
def kChain3 (r' r'' : D → D → AH → (D → AH → Prop) → Prop) (c d : AE') (y : D) (s : ASt) (P : D → AH → Prop) : D → AH → Prop := fun z C3 => match z with
  | .bl true => c s C3 fun w C4 => r' y w C4 (kChain r'' d w s P)
  | .bl false => P (.bl false) C3
  | _ => False
theorem g_chain3 (h : a s C fun x C1 => b s C1 fun y C2 => r x y C2 (kChain3 r' r'' c d y s P)) : aChain3 r r' r'' a b c d s C P := h
end
end AL
namespace AL
open PySem PySem.Spec PyProof.Rows L2
open PyProof.Rows (envOfC)
end AL
namespace AL
open PySem PySem.Spec PyProof.Rows L2
end AL
namespace AL
open PySem PySem.Spec PyProof.Rows L2
variable {B : Bs}
def isTupM : D → Bool
  | .tup ds => !wkP ds
  | _ => false
def aMethT (m : D → ASp) (o : AE') (a : AA') : AE' := fun s C P => o s C fun x C1 => isTupM x = true ∧ a s C1 fun ds C2 => m x ds C2 P
section
variable {C : AH} {P : D → AH → Prop} {s : ASt} {e : AE'} {aa : AA'}
theorem g_methT {m : D → ASp} (h : e s C fun x C1 => isTupM x = true ∧ aa s C1 fun ds C2 => m x ds C2 P) : aMethT m e aa s C P := h
theorem isTupM_map (ys : List Str) : isTupM (.tup (ys.map D.str)) = true := by
  cases ys with
  | nil => rfl
  | cons y l => rfl
theorem g_tyT {ys : List Str} {A : Prop} (h : A) : isTupM (.tup (ys.map D.str)) = true ∧ A := ⟨isTupM_map ys, h⟩
end
end AL
namespace AL
open PySem PySem.Spec PyProof.Rows L2
end AL
namespace AL
open PySem PySem.Spec PyProof.Rows L2
variable {B : Bs}
def downD (hi : Int) (n : Nat) : List D := (List.range n).map fun (i : Nat) => D.int (hi - i)
def aIR3 (a : AA') : AI' := fun s C P => a s C fun ds C1 => match ds with | [.int i, .int j, .int c] => (c = -1 ∧ -(2 ^ 62) ≤ i ∧ i < 2 ^ 62 ∧ -(2 ^ 62) ≤ j ∧ j < 2 ^ 62) ∧ P (downD i (i - j).toNat) (fun _ => True) C1 | _ => False
section
variable {s : ASt} {C : AH} {PI : List D → (AH → Prop) → AH → Prop} {aa : AA'}
def kIR3 (PI : List D → (AH → Prop) → AH → Prop) : List D → AH → Prop := fun ds C1 => match ds with | [.int i, .int j, .int c] => (c = -1 ∧ -(2 ^ 62) ≤ i ∧ i < 2 ^ 62 ∧ -(2 ^ 62) ≤ j ∧ j < 2 ^ 62) ∧ PI (downD i (i - j).toNat) (fun _ => True) C1 | _ => False
theorem g_ir3 (h : aa s C (kIR3 PI)) : aIR3 aa s C PI := h
theorem g_kIR3 {i j : Int} (h1 : -(2 ^ 62) ≤ i ∧ i < 2 ^ 62 ∧ -(2 ^ 62) ≤ j ∧ j < 2 ^ 62) (h : PI (downD i (i - j).toNat) (fun _ => True) C) : kIR3 PI [.int i, .int j, .int (-1)] C := ⟨⟨rfl, h1⟩, h⟩
end
end AL
namespace AL
open PySem PySem.Spec PyProof.Rows L2
open PyProof.Rows (envOfC)
variable {B : Bs}
/-- raise X(e), X a class whose __init__ stores e -/
def aRaiseI (W : AX') (nm : Str) (a : AA') : AS' := fun _ s C => a s C fun ds C1 => ds.length = 1 ∧ W s nm C1
section
variable {W : AX'} {s : ASt} {C : AH} {nm : Str} {a : AA'} {E : AEnds}
def kRI (W : AX') (nm : Str) (s : ASt) : List D → AH → Prop := fun ds C1 => ds.length = 1 ∧ W s nm C1
theorem g_raiseI (h : a s C (kRI W nm s)) : aRaiseI W nm a E s C := h
theorem g_kRI {d : D} (h : W s nm C) : kRI W nm s [d] C := ⟨rfl, h⟩
end
end AL
namespace AL
open PySem PySem.Spec PyProof.Rows L2
variable {B : Bs}
section
variable {X : Cx} {pins : List (Addr × Obj)} {σ : L2.St} {H : Hp} {s : Shared} {d : Addr} {o : Obj}
theorem entriesN_at {ys : List (NestedKey × Addr × Value)} {w : World} {es : Array DictEntry} (he : es.toList = ys.map (fun x => (⟨x.1.hash w, .ref x.2.1, x.2.2⟩ : DictEntry))) {i : Nat} {y : NestedKey × Addr × Value} (h : ys[i]? = some y) : es[i]? = some (⟨y.1.hash w, .ref y.2.1, y.2.2⟩ : DictEntry) := by
  rw [← Array.getElem?_toList, he, List.getElem?_map, h]
  rfl
theorem _root_.L2.Inv.frzN {xs : List (NestedKey × Addr × V)} (I : Inv X pins σ H s) (h : H d = some (.frz o (.ext (DictN X.w d xs)))) :
    (d == sysModules) = false ∧ s.heap.get? d = some o ∧ o.ExactDict ∧ ∃ (es : Array DictEntry) (ep : Nat), o.data = .dict es ep ∧ es.size = xs.length ∧
      ∀ (i : Nat) (x : NestedKey × Addr × V), xs[i]? = some x → ∃ en : DictEntry, es[i]? = some en ∧ en.key = .ref x.2.1 ∧ RelV x.2.2 en.val := by
  obtain ⟨hd, ⟨z, hs, ys, r, o', es, ep, ho, hx, hdt, he, hn⟩, _, _⟩ := I.hok d _ h
  rw [hd] at ho
  cases ho
  refine ⟨hs, hd, hx, es, ep, hdt, ?_, fun i x e => ?_⟩
  · have l1 : es.size = ys.length := by rw [← Array.length_toList, he, List.length_map]
    have l2 : xs.length = ys.length := Paired.length r
    omega
  · obtain ⟨y, hy, e1, e2, e3⟩ := paired_get r e
    exact ⟨_, entriesN_at he hy, by rw [e2], e3⟩
end
/-- the keys of the locked dict at d -/
def ItkN (w : World) (d : Addr) (o : Obj) (xs : List (NestedKey × Addr × V)) : It :=
  ⟨fun i H => H d = some (.frz o (.ext (DictN w d xs))) ∧ i < xs.length, fun i H x H' => H' = H ∧ ∃ e, xs[i]? = some e ∧ x = .ref e.2.1, fun i H => H d = some (.frz o (.ext (DictN w d xs))) ∧ xs.length ≤ i⟩
section
variable {P : Program} {w : World} {K : PySem.W.Frag} {tg : Expr} {d : Addr} {o : Obj} {es : Array DictEntry} {ep : Nat}
theorem turn_keysN {xs : List (NestedKey × Addr × V)} (it : Addr) (hod : o.data = .dict es ep) : Turn P w K tg (ItkN w d o xs) [it] it (fun i h => h.IsKeyIter it d i es.size ep) where
  mem := by simp
  obj := fun i h st b hb => by
    have e : b = it := by simpa using hb
    subst e
    obtain ⟨oi, e, c, dd⟩ := st
    exact ⟨oi, e, fun v z => by rw [dd] at z; cases z⟩
  keep := fun i h h' st k => st.at fun oi e => k it (by simp) oi e
  item := by
    intro X hP hw hK hc i pins s σ H E I hf st hg
    subst hP hw hK
    obtain ⟨hd, hi⟩ := hg
    obtain ⟨f0, f1, f2, f3, f4, f5⟩ := hf it (by simp)
    obtain ⟨hs, hgd, hx, es', ep', hdt, hsz, ent⟩ := I.frzN hd
    obtain ⟨rfl, rfl⟩ := dict_ep hod hdt
    obtain ⟨x, hkv⟩ : ∃ p, xs[i]? = some p := ⟨xs[i], List.getElem?_eq_getElem hi⟩
    obtain ⟨en, hen, hkey, hval⟩ := ent i x hkv
    refine next_key_item st hgd hdt rfl hen fun h' st' sb => ?_
    have I1 : Inv X pins σ H { s with heap := h' } := I.turned (t' := s.toks) (fun b ob hb e => (sb.2 b hb).trans e) f0 f1 f3 f4 f5
    obtain ⟨oi, e, c, dd⟩ := id st'
    refine ⟨en.key, rfl, go_of (s := { s with heap := h' }) e c dd (by decide) ⟨.ref x.2.1, H, I1, hkey, ⟨rfl, x, hkv, rfl⟩, st', fun b hb => (hf b hb).1⟩⟩
  done := by
    intro X hP hw hK hc i pins s σ H E I hf st hg
    subst hP hw hK
    obtain ⟨hd, hi⟩ := hg
    obtain ⟨f0, f1, f2, f3, f4, f5⟩ := hf it (by simp)
    obtain ⟨hs, hgd, hx, es', ep', hdt, hsz, ent⟩ := I.frzN hd
    obtain ⟨rfl, rfl⟩ := dict_ep hod hdt
    exact next_key_end (I.ok.hd hc) st hgd hdt rfl (by omega) fun h' eb => ⟨rfl, I.turned (t' := s.toks) (fun b ob hb e => eb b ob hb e) f0 f1 f3 f4 f5⟩
  self := fun A i s Q E st h => by
    refine wpAny_pyIter_slot st.typeIs F.slot_dict_keyiterator_iter (wpAny_call_entry F.slot_dict_keyiterator_iter st.typeIs F.entry_dict_keyiterator_iter ?_ (F.args_dict_keyiterator_iter_1 _))
    show wpAny _ _ (ret (.ref it)) _ _ s
    exact wpAny_pure ⟨_, rfl, "dict_keyiterator", _, st.typeIs, F.slot_dict_keyiterator_next.lookup, h⟩
end
def iKeysN (w : World) (td : TE) : TI := fun σ H R => td σ H fun x H1 => ∃ d, x = .ref d ∧ ((∃ xs, H1 d = some (.ext (DictN w d xs)) ∧ ∀ o, R (ItkN w d o xs) (upd H1 d (.frz o (.ext (DictN w d xs))))) ∨ ∃ o xs, H1 d = some (.frz o (.ext (DictN w d xs))) ∧ R (ItkN w d o xs) H1)
section
variable {X : Cx} {tg e : Expr} {td : TE}
theorem pi_keysN (he : PE X e td) : PI X tg e (iKeysN X.w td) := by
  refine ⟨fun pins s σ H R I h => ?_⟩
  refine thn (he.run pins s σ H _ I h) fun u s1 ⟨x, H1, I1, rx, d, ex, q⟩ => ?_
  subst ex
  obtain rfl : u = Value.ref d := rx
  rcases q with ⟨xs, hd, q⟩ | ⟨o, xs, hd, q⟩
  · obtain ⟨od, I2⟩ := I1.lock hd True.intro
    obtain ⟨hs, hgd, hx, es, ep, hdt, hsz, ent⟩ := I2.frzN upd_same
    exact iter_keys hs hgd hx hdt (pi_one (tk := s1.toks) I2 _ (turn_keysN _ hdt) ⟨_, Heap.get?_push_size _ rfl, rfl, rfl⟩ (q od))
  · obtain ⟨hs, hgd, hx, es, ep, hdt, hsz, ent⟩ := I1.frzN hd
    exact iter_keys hs hgd hx hdt (pi_one (tk := s1.toks) I1 _ (turn_keysN _ hdt) ⟨_, Heap.get?_push_size _ rfl, rfl, rfl⟩ q)
end
theorem RepW.get {K : PySem.W.Frag} {F : Hp} : ∀ {xs : List (NestedKey × Addr × V)} {es : List (D × D)} {i : Nat} {x : NestedKey × Addr × V}, RepW K F xs es → xs[i]? = some x → ∃ e, es[i]? = some e ∧ Rep K F (.ref x.2.1) e.1 ∧ Rep K F x.2.2 e.2
  | _, _, _, _, .nil, e => by simp at e
  | _, _, 0, _, .cons a _ r _, e => by simp at e; subst e; exact ⟨_, rfl, a, r⟩
  | _, _, i + 1, x, .cons _ _ _ t, e => by
    obtain ⟨u, h1, h2⟩ := RepW.get (i := i) (x := x) t (by simpa using e)
    exact ⟨u, by simpa using h1, h2⟩
theorem RepW.len {K : PySem.W.Frag} {F : Hp} : ∀ {xs : List (NestedKey × Addr × V)} {es : List (D × D)}, RepW K F xs es → xs.length = es.length
  | _, _, .nil => rfl
  | _, _, .cons _ _ _ t => by rw [List.length_cons, List.length_cons, RepW.len t]
theorem Sat.cellW {K : PySem.W.Frag} {F : Hp} {C : AH} {R H : Hp} {p : Addr} {l : Obj × List (NestedKey × Addr × V)} {es : List (D × D)} (S : Sat B K F C R H) (e : C p = some (.dw (some l) es)) : H p = some (.frz l.1 (.ext (DictN B.g.w p l.2))) ∧ RepW K F l.2 es := by
  obtain ⟨_, u, h1, h2⟩ := S.cell p _ e
  cases h2 with
  | dwl q => exact ⟨h1, q⟩
/-- for k in d, the keys told -/
def aIKW (a : AE') : AI' := fun s C P => a s C fun x C1 => match x with
  | .ce p => (match C1 p with
    | some (.dw none es) => ∀ l, P (es.map (·.1)) (fun C' => C' p = some (.dw (some l) es)) (put C1 p (.dw (some l) es))
    | some (.dw (some l) es) => P (es.map (·.1)) (fun C' => C' p = some (.dw (some l) es)) C1
    | _ => False)
  | _ => False
theorem ai_keysW {X : Cx} {tg e : Expr} {te : TE} {a : AE'} {g : Gd} (h : AE B X e te a) (hw : B.g = g := by first | rfl | assumption) (hX : (⟨X.w, X.mg⟩ : Gd) = g := by rfl) : AI B X tg e (iKeysN g.w te) (aIKW a) := by
  refine ⟨by rw [← hX]; exact pi_keysN h.pe, ?_⟩
  subst hw
  intro σ s F C R H Q P hs hS h0 k
  have fin : ∀ (p : Addr) (l : Obj × List (NestedKey × Addr × V)) (es : List (D × D)) (F1 : Hp), Walks B X.K F1 (es.map (·.1)) (fun C' => C' p = some (.dw (some l) es)) (ItkN B.g.w p l.1 l.2) := by
    intro p l es F1
    refine ⟨fun F' C' R' H' e S hc => ?_, fun F' C' R' H' i e S hc hi => ?_, fun F' C' R' H' i x H'' e S hc hi y => ?_⟩
    · obtain ⟨g1, g2⟩ := S.cellW hc
      exact ⟨g1, by rw [g2.len, List.length_map]; exact Nat.le_refl _⟩
    · obtain ⟨g1, g2⟩ := S.cellW hc
      rw [List.length_map] at hi
      exact ⟨g1, by rw [g2.len]; exact hi⟩
    · obtain ⟨g1, g2⟩ := S.cellW hc
      obtain ⟨rfl, u, u1, rfl⟩ := y
      obtain ⟨v, v1, v2, _⟩ := g2.get u1
      exact ⟨v.1, F', by rw [List.getElem?_map, v1]; rfl, Ex.refl F', S, v2⟩
  refine h.sim σ s F C R H _ _ hs hS h0 fun x v F1 C1 H1 e1 S1 r1 h1 => ?_
  split at h1
  · rename_i p
    cases r1
    split at h1
    · rename_i es q
      obtain ⟨_, u, h2, h3⟩ := S1.cell p _ q
      cases h3 with
      | @dw xs _ h4 =>
        exact ⟨p, rfl, .inl ⟨xs, h2, fun o => k _ _ _ F1 _ _ e1 (S1.mutC q (.dwl h4)) (fin p (o, xs) es F1) (h1 (o, xs))⟩⟩
    · rename_i l es q
      obtain ⟨h2, h3⟩ := S1.cellW q
      exact ⟨p, rfl, .inr ⟨l.1, l.2, h2, k _ _ _ F1 _ _ e1 S1 (fin p l es F1) h1⟩⟩
    · exact h1.elim
  · exact h1.elim
theorem hu24 {k : Nat} {A : Around} (r : Room k A) : A.units + 24 < cLine := by
  have := r.un
  omega
/-- for k, v in d.items(), the keys told -/
def aIIW (a : AE') : AI' := fun s C P => a s C fun x C1 => match x with
  | .ce p => (match C1 p with
    | some (.dw none es) => ∀ l, P (es.map fun e => .tup [e.1, e.2]) (fun C' => C' p = some (.dw (some l) es)) (put C1 p (.dw (some l) es))
    | some (.dw (some l) es) => P (es.map fun e => .tup [e.1, e.2]) (fun C' => C' p = some (.dw (some l) es)) C1
    | _ => False)
  | _ => False
def aDict0W : AE' := fun _ C P => ∀ p, C p = none → P (.ce p) (put C p (.dw none []))
def aDispW (ak av : AE') : AE' := fun s C P => ak s C fun dk C1 => av s C1 fun dv C2 => match keyT dk with
  | some _ => ∀ p, C2 p = none → P (.ce p) (put C2 p (.dw none [(dk, dv)]))
  | none => False
def putAllN (xs ps : List (NestedKey × Addr × V)) : List (NestedKey × Addr × V) := ps.foldl (fun acc p => putN acc p.1 p.2.1 p.2.2) xs
theorem putAllN_le : ∀ (ps xs : List (NestedKey × Addr × V)), (putAllN xs ps).length ≤ xs.length + ps.length
  | [], xs => Nat.le_refl _
  | p :: ps, xs => by
    have h1 := putN_le xs p.1 p.2.1 p.2.2
    have h2 := putAllN_le ps (putN xs p.1 p.2.1 p.2.2)
    show (putAllN (putN xs p.1 p.2.1 p.2.2) ps).length ≤ _
    rw [List.length_cons]
    omega
theorem KN.putAll : ∀ {ps : List (NestedKey × Addr × V)} {qs : List (NestedKey × Addr × Value)}, KN ps qs → ∀ {xs : List (NestedKey × Addr × V)} {ys : List (NestedKey × Addr × Value)}, KN xs ys → KN (putAllN xs ps) (storedAllH ys qs) := by
  intro ps qs r
  induction r with
  | nil => intro xs ys h; exact h
  | @cons p q ps qs h t ih =>
    intro xs ys g
    obtain ⟨e1, e2, e3⟩ := h
    have z := KN.put g p.1 p.2.1 e3
    have := ih z
    show KN (putAllN (putN xs p.1 p.2.1 p.2.2) ps) (storedAllH (storedH ys q.1 q.2.1 q.2.2) qs)
    rw [← e1, ← e2]
    exact this
theorem pairsN_of {X : Cx} {pins : List (Addr × Obj)} {σ : L2.St} {H : Hp} {s : Shared} (I : Inv X pins σ H s) : ∀ {ps : List Addr} {kvs : List (NestedKey × Addr × V)}, Paired (fun p kv => SqT X.K H p [.ref kv.2.1, kv.2.2]) ps kvs →
    ∃ ys : List (NestedKey × Addr × Value), KN kvs ys ∧ ys.length = ps.length ∧ ∀ (j : Nat) (y : NestedKey × Addr × Value), ys[j]? = some y → ∃ b : Addr, ps[j]? = some b ∧ IsTup s.heap b #[.ref y.2.1, y.2.2]
  | _, _, .nil => ⟨[], .nil, rfl, fun j q e => by simp at e⟩
  | _, _, .cons (a := p) (b := kv) h t => by
    obtain ⟨ys, r, hl, hp⟩ := pairsN_of I t
    obtain ⟨its, rv, ht, _⟩ := I.tuple h
    obtain ⟨u, y, ei, ru, ry⟩ := vals2 rv
    subst ei
    have ru' : u = Value.ref kv.2.1 := ru
    subst ru'
    refine ⟨(kv.1, kv.2.1, y) :: ys, .cons ⟨rfl, rfl, ry⟩ r, by rw [List.length_cons, List.length_cons, hl], fun j q e => ?_⟩
    cases j with
    | zero =>
      have e' : (kv.1, kv.2.1, y) = q := Option.some.inj e
      subst e'
      exact ⟨p, rfl, ht⟩
    | succ j =>
      obtain ⟨b, e1, e2⟩ := hp j q (by simpa using e)
      exact ⟨b, by simpa using e1, e2⟩
def rDictN (K : PySem.W.Frag) (w : World) : List V → Hp → VK → Prop := fun xs H Q => ∃ (a : Addr) (ps : List Addr) (kvs : List (NestedKey × Addr × V)), xs = [.ref a] ∧ SqL K H a (ps.map V.ref) ∧ Paired (fun p kv => SqT K H p [.ref kv.2.1, kv.2.2]) ps kvs ∧ KeysN H kvs ∧
    ∀ p, H p = none → Q (.ref p) (upd H p (.ext (DictN w p (putAllN [] kvs))))
theorem call_dictN {X : Cx} (hcalm : X.calm = true) (hu : X.A.units + 24 < cLine) : CallR X (.type "dict") (rDictN X.K X.w) := by
  intro pins s σ H xs us Q I r q
  obtain ⟨a, ps, kvs, ex, hq, hp, hk, q⟩ := q
  subst ex
  obtain ⟨u, eu, rx⟩ := vals1 r
  subst eu
  cases rx
  obtain ⟨its, rv, pl, hz⟩ := I.list hq
  have ei := refs_at rv
  subst ei
  rw [List.length_map] at hz
  obtain ⟨ys, rel, hl, hpr⟩ := pairsN_of I hp
  obtain ⟨o, n, ho, hc, hd, hdat⟩ := pl
  have hkey : ∀ x ∈ ys, (nestedKind X.prog X.w).is s.heap x.1 x.2.1 := by
    have all : ∀ {l : List (NestedKey × Addr × V)} {m : List (NestedKey × Addr × Value)}, KN l m → KeysN H l → ∀ y ∈ m, (nestedKind X.prog X.w).is s.heap y.1 y.2.1 := by
      intro l m q
      induction q with
      | nil => intro _ y hy; exact nomatch hy
      | @cons p q ps qs hq t ih =>
        intro hl y hy
        rcases List.mem_cons.mp hy with e | hy
        · subst e
          obtain ⟨g1, g2⟩ := hl p List.mem_cons_self
          rw [hq.1, hq.2.1] at g1
          rw [hq.1] at g2
          exact ⟨vkey_is I.hok g1 rfl, g2⟩
        · exact ih (fun z hz => hl z (List.mem_cons_of_mem _ hz)) y hy
    exact all rel hk
  let prs : List (Value × Value) := ys.map fun y => (.ref y.2.1, y.2.2)
  have hpl : prs.length = ps.length := by show (List.map _ _).length = _; rw [List.length_map, hl]
  have pa := PairArg.list (prog := X.prog) (w := X.w) a (ps.map Value.ref).toArray (fun j => ps.getD j 0) prs
  refine call_dict_pairsH (knd := nestedKind X.prog X.w) (ps := ys) pa (I.ok.hd hcalm) (show X.A.in1.in1.units + 8 < cLine by rw [Around.in1_units, Around.in1_units]; omega) ⟨⟨o, n, ho, hc, hd, hdat⟩, by simp [hpl], fun j k v e => ?_⟩ ⟨by rw [hpl, hl], fun i key v e => ?_⟩ (fun h' hk' x hx => ?_) (by rw [hpl]; exact hz) fun h' tk hd' k => ?_
  · rw [List.getElem?_map] at e
    obtain ⟨y, e1, e2⟩ := Option.map_eq_some_iff.mp e
    cases e2
    obtain ⟨b, e3, e4⟩ := hpr j y e1
    have e5 : ps.getD j 0 = b := by rw [List.getD_eq_getElem?_getD, e3]; rfl
    refine ⟨?_, .inl ?_⟩
    · show (List.toArray _)[j]? = _
      rw [List.getElem?_toArray, List.getElem?_map, e3]
      show some (Value.ref b) = some (Value.ref (ps.getD j 0))
      rw [e5]
    · show s.heap.IsTuple (ps.getD j 0) _
      rw [e5]
      exact e4
  · have e' : prs[i]? = some (key, v) := e
    rw [List.getElem?_map] at e'
    obtain ⟨y, e1, e2⟩ := Option.map_eq_some_iff.mp e'
    cases e2
    exact ⟨y.1, y.2.1, e1, rfl⟩
  · exact nestedKind_stays.stays (fun b o vs n e1 e2 => hk' b o (Nat.ne_of_lt (Heap.lt_size e1)) (fun z => nomatch z) e1) (hkey x hx)
  · have hm : (s.heap.objs.size == sysModules) = false := beq_eq_false_iff_ne.mpr (Nat.ne_of_gt I.big)
    have hlen : (putAllN [] kvs).length ≤ sizeLine := by
      refine Nat.le_trans (putAllN_le kvs []) ?_
      rw [List.length_nil, Nat.zero_add, Paired.length rel, hl]
      exact hz
    exact ⟨.ref s.heap.objs.size, _, I.laid (t' := tk) (fun b o e => k b o (fun z => nomatch z) e) (Nat.le_refl _) (dn_obj hlen hm (KN.putAll rel .nil) hd'), rfl, q _ (I.hok.fresh (Nat.le_refl _))⟩
/-- pairs whose first is a tuple -/
def pairsW : List D → Option (List (D × D))
  | [] => some []
  | .tup [k, d] :: ds => if (keyT k).isSome = true then (pairsW ds).map ((k, d) :: ·) else none
  | _ => none
theorem rep_pairsW {K : PySem.W.Frag} {F : Hp} : ∀ {ds : List D} {es : List (D × D)} {vs : List V}, pairsW ds = some es → RepL K F vs ds → ∃ (ps : List Addr) (kvs : List (NestedKey × Addr × V)), vs = ps.map V.ref ∧ Paired (fun p kv => Rd F p (.tup [.ref kv.2.1, kv.2.2])) ps kvs ∧ RepW K F kvs es
  | [], es, _, h, .nil => by cases h; exact ⟨[], [], rfl, .nil, .nil⟩
  | d :: ds, es, _, h, .cons r t => by
    unfold pairsW at h
    split at h
    · rename_i e; cases e
    · rename_i k d2 ds2 e
      cases e
      split at h
      · rename_i hk
        obtain ⟨es2, q, rfl⟩ := Option.map_eq_some_iff.mp h
        obtain ⟨ps, kvs, rfl, h1, h2⟩ := rep_pairsW q t
        obtain ⟨ky, ek⟩ := Option.isSome_iff_exists.mp hk
        cases r with
        | tup e q =>
          cases q with
          | cons q1 q2 =>
            cases q2 with
            | cons q3 q4 =>
              cases q4
              obtain ⟨b, rfl, g5, g6⟩ := keyT_ok q1 ek
              exact ⟨_ :: ps, (ky, b, _) :: kvs, rfl, .cons e.1 h1, .cons q1 ek q3 h2⟩
      · cases h
    · cases h
def mergeW (acc es : List (D × D)) : List (D × D) := es.foldl (fun a e => putW a e.1 e.2) acc
theorem RepW.merge {K : PySem.W.Frag} {F : Hp} : ∀ {kvs : List (NestedKey × Addr × V)} {es : List (D × D)}, RepW K F kvs es → ∀ {xs : List (NestedKey × Addr × V)} {us : List (D × D)}, RepW K F xs us → RepW K F (putAllN xs kvs) (mergeW us es)
  | _, _, .nil, _, _, h => h
  | _, _, .cons a b r t, xs, us, h => by
    show RepW K F (putAllN (putN xs _ _ _) _) (mergeW (putW us _ _) _)
    exact RepW.merge t (RepW.put a b r h)
def aDictW : ASp := fun ds C P => match ds with
  | [d] => ∃ ws es, asLr C d = some ws ∧ pairsW ws = some es ∧ ∀ p, C p = none → P (.ce p) (put C p (.dw none (mergeW [] es)))
  | _ => False
theorem ac_dictW {X : Cx} {K : PySem.W.Frag} {g : Gd} (hu : X.A.units + 24 < cLine) (hc : X.calm = true := by rfl) (hK : X.K = K := by rfl) (hw : B.g = g := by first | rfl | assumption) (hX : (⟨X.w, X.mg⟩ : Gd) = g := by rfl) : ACa B X (.type "dict") (rDictN K g.w) aDictW := by
  subst hK hw
  have hXw : X.w = B.g.w := by rw [← hX]
  exact ⟨by rw [← hX]; exact call_dictN hc hu, by
  intro vs ds F C R H Q P hS r h k
  unfold aDictW at h
  split at h
  · cases r with
    | cons r1 r2 =>
      cases r2
      obtain ⟨ws, es, h1, h2, h3⟩ := h
      obtain ⟨a, xs, rfl, g1, g2⟩ := asLr_ok hS r1 h1
      obtain ⟨ps, kvs, rfl, g3, g4⟩ := rep_pairsW h2 g2
      refine ⟨a, ps, kvs, rfl, g1, Paired.mapP g3 fun _ _ z => SqT.of (rdUp z hS.ex), fun z hz => ⟨(g4.toN.keys z hz).1.mono hS.ex, (g4.toN.keys z hz).2⟩, fun p hp => ?_⟩
      exact k _ _ _ _ _ (Ex.refl F) (hS.newC hp (.dw (RepW.merge g4 .nil))) (.ce p) (h3 p (hS.freeC hp))
  · exact h.elim⟩
section
variable {C : AH} {P : D → AH → Prop} {p q : Addr}
theorem g_dict0W {s : ASt} (h : ∀ p, C p = none → P (.ce p) (put C p (.dw none []))) : aDict0W s C P := h
def kDispW (P : D → AH → Prop) (dk : D) : D → AH → Prop := fun dv C2 => match keyT dk with
  | some _ => ∀ p, C2 p = none → P (.ce p) (put C2 p (.dw none [(dk, dv)]))
  | none => False
theorem g_dispW {s : ASt} {ak av : AE'} (h : ak s C fun dk C1 => av s C1 (kDispW P dk)) : aDispW ak av s C P := h
theorem lookD_dw {lk : Option (Obj × List (NestedKey × Addr × V))} {es : List (D × D)} {y : D} {k : NestedKey} (hC : C q = some (.dw lk es)) (h : keyT y = some k) : lookD C (.ce q) y = some (valND (keysW es) k) := by
  unfold lookD
  simp only [asK, asN, hC, h]
end
end AL
namespace AL
open PySem PySem.Spec PyProof.Rows L2
variable {B : Bs}
def aInDp (neg : Bool) : D → D → AH → (D → AH → Prop) → Prop := fun x y C P => ∃ n d ds, pdD C n x = some d ∧ pdD C n y = some (.list ds) ∧ SeqAt.shaped d = true ∧ SeqAt.shaped (.list ds) = true ∧ P (.bl (if neg then !(ds.any fun z => PyData.eqv z d) else ds.any fun z => PyData.eqv z d)) C
section
variable {X : Cx} {K : PySem.W.Frag}
theorem ao_inDp (hu : X.A.units + 65 < cLine) (hK : X.K = K := by rfl) : AOp B X (compareOp .In) (rInD K) (aInDp false) := by
  subst hK
  refine ⟨op_inD hu, ?_⟩
  intro v w d e F C R H Q P hS r1 r2 ⟨n, d', ds, h1, h2, s1, s2, h3⟩ k
  exact ⟨d', ds, pdD_ok hS n _ _ _ r1 h1, pdD_ok hS n _ _ _ r2 h2, s1, s2, k _ _ F C H (Ex.refl F) hS (.bl _) h3⟩
theorem ao_ninDp (hu : X.A.units + 65 < cLine) (hK : X.K = K := by rfl) : AOp B X (compareOp .NotIn) (rNotInD K) (aInDp true) := by
  subst hK
  refine ⟨op_notInD hu, ?_⟩
  intro v w d e F C R H Q P hS r1 r2 ⟨n, d', ds, h1, h2, s1, s2, h3⟩ k
  exact ⟨d', ds, pdD_ok hS n _ _ _ r1 h1, pdD_ok hS n _ _ _ r2 h2, s1, s2, k _ _ F C H (Ex.refl F) hS (.bl _) h3⟩
def aEqX (neg : Bool) : D → D → AH → (D → AH → Prop) → Prop := fun x y C P => aEqD neg x y C P ∨ aEqW neg x y C P
theorem ao_eqX (hu : X.A.units + 64 < cLine) (hK : X.K = K := by rfl) : AOp B X (compareOp .Eq) (fun x y H Q => (rEq x y H Q ∨ rEqD K x y H Q) ∨ ((rEq x y H Q ∨ rEqD K x y H Q) ∨ rEqW K false x y H Q)) (aEqX false) := by
  have h1 := ao_eqDc (B := B) (X := X) (K := K) hu hK
  have h2 := ao_eqW (B := B) (X := X) (K := K) hu hK
  refine ⟨h1.op.or h2.op, ?_⟩
  intro v w d e F C R H Q P hS r1 r2 h k
  rcases h with h | h
  · exact .inl (h1.sim v w d e F C R H Q P hS r1 r2 h k)
  · exact .inr (h2.sim v w d e F C R H Q P hS r1 r2 h k)
theorem ao_neX (hu : X.A.units + 64 < cLine) (hK : X.K = K := by rfl) : AOp B X (compareOp .NotEq) (fun x y H Q => (rNe x y H Q ∨ rNeD K x y H Q) ∨ ((rNe x y H Q ∨ rNeD K x y H Q) ∨ rEqW K true x y H Q)) (aEqX true) := by
  have h1 := ao_neDc (B := B) (X := X) (K := K) hu hK
  have h2 := ao_neW (B := B) (X := X) (K := K) hu hK
  refine ⟨h1.op.or h2.op, ?_⟩
  intro v w d e F C R H Q P hS r1 r2 h k
  rcases h with h | h
  · exact .inl (h1.sim v w d e F C R H Q P hS r1 r2 h k)
  · exact .inr (h2.sim v w d e F C R H Q P hS r1 r2 h k)
end
section
variable {C : AH} {P : D → AH → Prop}
theorem g_inDp {x y : D} (n : Nat) {u : PyData} {vs : List PyData} (h1 : pdD C n x = some u) (h2 : pdD C n y = some (.list vs)) (h3 : SeqAt.shaped u = true) (h4 : SeqAt.shaped (.list vs) = true) (h : P (.bl (vs.any fun z => PyData.eqv z u)) C) : aInDp false x y C P := ⟨n, u, vs, h1, h2, h3, h4, h⟩
theorem g_ninDp {x y : D} (n : Nat) {u : PyData} {vs : List PyData} (h1 : pdD C n x = some u) (h2 : pdD C n y = some (.list vs)) (h3 : SeqAt.shaped u = true) (h4 : SeqAt.shaped (.list vs) = true) (h : P (.bl (!(vs.any fun z => PyData.eqv z u))) C) : aInDp true x y C P := ⟨n, u, vs, h1, h2, h3, h4, h⟩
theorem g_eqXd {x y : D} (n : Nat) {u v : PyData} (h1 : pdD C n x = some u) (h2 : pdD C n y = some v) (h3 : SeqAt.shaped u = true) (h4 : SeqAt.shaped v = true) (h : P (.bl (PyData.eqv u v)) C) : aEqX false x y C P := .inl (g_eqDp n h1 h2 h3 h4 h)
theorem g_neXd {x y : D} (n : Nat) {u v : PyData} (h1 : pdD C n x = some u) (h2 : pdD C n y = some v) (h3 : SeqAt.shaped u = true) (h4 : SeqAt.shaped v = true) (h : P (.bl (!PyData.eqv u v)) C) : aEqX true x y C P := .inl (g_neDp n h1 h2 h3 h4 h)
theorem g_eqXw {x y : D} {b : Bool} (h1 : Whole x y b) (h : P (.bl b) C) : aEqX false x y C P := .inr (.inr ⟨b, h1, h⟩)
end
section
variable {C : AH} {s : ASt} {e : AE'} {PI : List D → (AH → Prop) → AH → Prop} {p : Addr} {es : List (D × D)}
def kIKW (PI : List D → (AH → Prop) → AH → Prop) : D → AH → Prop := fun x C1 => match x with
  | .ce p => (match C1 p with
    | some (.dw none es) => ∀ l, PI (es.map (·.1)) (fun C' => C' p = some (.dw (some l) es)) (put C1 p (.dw (some l) es))
    | some (.dw (some l) es) => PI (es.map (·.1)) (fun C' => C' p = some (.dw (some l) es)) C1
    | _ => False)
  | _ => False
theorem g_ikw (h : e s C (kIKW PI)) : aIKW e s C PI := h
theorem g_kIKW (h0 : C p = some (.dw none es)) (h : ∀ l, PI (es.map (·.1)) (fun C' => C' p = some (.dw (some l) es)) (put C p (.dw (some l) es))) : kIKW PI (.ce p) C := by
  show (match C p with | some (.dw none es) => ∀ l, PI (es.map (·.1)) (fun C' => C' p = some (.dw (some l) es)) (put C p (.dw (some l) es)) | some (.dw (some l) es) => PI (es.map (·.1)) (fun C' => C' p = some (.dw (some l) es)) C | _ => False)
  rw [h0]
  exact h
def kIIW (PI : List D → (AH → Prop) → AH → Prop) : D → AH → Prop := fun x C1 => match x with
  | .ce p => (match C1 p with
    | some (.dw none es) => ∀ l, PI (es.map fun e => .tup [e.1, e.2]) (fun C' => C' p = some (.dw (some l) es)) (put C1 p (.dw (some l) es))
    | some (.dw (some l) es) => PI (es.map fun e => .tup [e.1, e.2]) (fun C' => C' p = some (.dw (some l) es)) C1
    | _ => False)
  | _ => False
theorem g_iiw (h : e s C (kIIW PI)) : aIIW e s C PI := h
theorem g_dictW {P : D → AH → Prop} {ws : List D} (h1 : pairsW ws = some es) (h : ∀ p, C p = none → P (.ce p) (put C p (.dw none (mergeW [] es)))) : aDictW [.lst ws] C P := ⟨ws, es, rfl, h1, h⟩
end
section
variable {C : AH} {s : ASt} {e2 : AE'} {P : D → AH → Prop}
theorem g_kAndF (h : P (.bl false) C) : kAndV e2 s P (.bl false) C := g_kAnd (fun z => nomatch z) fun _ => h
theorem g_kAndT (h : e2 s C P) : kAndV e2 s P (.bl true) C := g_kAnd (fun _ => h) fun z => nomatch z
theorem g_kOrF (h : e2 s C P) : kOrV e2 s P (.bl false) C := g_kOr (fun z => nomatch z) fun _ => h
theorem g_kOrT (h : P (.bl true) C) : kOrV e2 s P (.bl true) C := g_kOr (fun _ => h) fun z => nomatch z
end
end AL
local macro_rules | `(tactic| walk_at "ne") => `(tactic| first | with_reducible assumption | ((with_reducible refine Ne.symm ?_); (with_reducible assumption)))
local macro_rules | `(tactic| walk_at "look") => `(tactic| first
  | with_reducible assumption
  | with_reducible exact AL.put_same
  | ((with_reducible apply AL.put_other); (walk_at "ne"); (walk_at "look"))
  | ((with_reducible apply AL.del_other); (walk_at "ne"); (walk_at "look")))
local macro_rules | `(tactic| walk_at "mul") => `(tactic| first | exact Or.inr ⟨by omega, by omega⟩ | exact Or.inl ⟨by omega, by omega⟩)
local macro_rules | `(tactic| walk_at "go1") => `(tactic| first
  | with_reducible apply AL.g_seq
  | with_reducible apply AL.g_raiseI
  | with_reducible apply AL.g_kRI
  | with_reducible apply AL.g_asg
  | with_reducible apply AL.g_op
  | with_reducible apply AL.g_un
  | ((with_reducible apply AL.g_var); exact rfl)
  | with_reducible apply AL.g_c
  | ((with_reducible apply AL.g_gname'); (simp only [AL.wipeA, List.foldl_cons, List.foldl_nil, List.set_cons_zero, List.set_cons_succ]; exact rfl))
  | with_reducible apply AL.g_call
  | with_reducible apply AL.g_cons
  | with_reducible apply AL.g_nil
  | with_reducible apply AL.g_addI
  | with_reducible apply AL.g_sub
  | ((with_reducible apply AL.g_mul); (walk_at "mul"))
  | ((with_reducible apply AL.g_mod); (omega))
  | ((with_reducible apply AL.g_div); (exact ⟨by omega, by omega⟩))
  | ((with_reducible apply AL.g_pow); (exact ⟨by decide, by decide, by decide⟩))
  | with_reducible apply AL.g_lt
  | with_reducible apply AL.g_le
  | with_reducible apply AL.g_gt
  | with_reducible apply AL.g_ge
  | with_reducible apply AL.g_eqII
  | with_reducible apply AL.g_neII
  | with_reducible apply AL.g_eqBB
  | with_reducible apply AL.g_neBB
  | with_reducible apply AL.g_eqTT
  | with_reducible apply AL.g_neTT
  | with_reducible apply AL.g_is
  | with_reducible apply AL.g_isnot
  | with_reducible apply AL.g_B
  | with_reducible apply AL.g_kB
  | with_reducible apply AL.g_tru
  | with_reducible apply AL.g_kTruB
  | with_reducible apply AL.g_and
  | with_reducible apply AL.g_or
  | with_reducible apply AL.g_not
  | with_reducible apply AL.g_andV
  | with_reducible apply AL.g_orV
  | with_reducible apply AL.g_notV
  | with_reducible apply AL.g_kNot
  | with_reducible apply AL.g_if
  | with_reducible apply AL.g_ixL0
  | with_reducible apply AL.g_ixL1
  | with_reducible apply AL.g_ixL2
  | with_reducible apply AL.g_ixT0
  | with_reducible apply AL.g_ixT1
  | with_reducible apply AL.g_ixT2
  | with_reducible apply AL.g_ixT3
  | ((with_reducible apply AL.g_ixC); (walk_at "look"))
  | with_reducible apply AL.g_lenL
  | with_reducible apply AL.g_lenT
  | with_reducible apply AL.g_lenR
  | ((with_reducible apply AL.g_lenC); (walk_at "look"))
  | with_reducible apply AL.g_abs
  | with_reducible apply AL.g_max2
  | with_reducible apply AL.g_min2
  | with_reducible apply AL.g_intI
  | with_reducible apply AL.g_intB
  | with_reducible apply AL.g_listL
  | with_reducible apply AL.g_listT
  | with_reducible apply AL.g_tupleL
  | with_reducible apply AL.g_tupleT
  | with_reducible apply AL.g_rev
  | with_reducible apply AL.g_ret
  | with_reducible apply AL.g_drop
  | with_reducible apply AL.g_next
  | with_reducible apply AL.g_retN
  | with_reducible apply AL.g_tup
  | with_reducible apply AL.g_lst
  | with_reducible apply AL.g_lstM
  | with_reducible apply AL.g_isi
  | with_reducible apply AL.g_kIsiI
  | with_reducible apply AL.g_kIsiB
  | with_reducible apply AL.g_kIsiN
  | with_reducible apply AL.g_kIsiS
  | with_reducible apply AL.g_kIsiL
  | with_reducible apply AL.g_kIsiT
  | with_reducible apply AL.g_kIsiK
  | with_reducible apply AL.g_meth
  | with_reducible apply AL.g_methT
  | with_reducible apply AL.g_tyT
  | with_reducible apply AL.g_meth0
  | ((with_reducible apply AL.g_gsetV); exact rfl)
  | ((with_reducible apply AL.g_kSet); (walk_at "look"); exact rfl)
  | ((with_reducible apply AL.g_frzL); exact rfl; (walk_at "look"))
  | ((with_reducible apply AL.g_gtup); exact rfl)
  | with_reducible apply AL.g_gcons
  | with_reducible apply AL.g_gnil
  | with_reducible apply AL.g_yes
  | with_reducible apply AL.g_sl
  | with_reducible apply AL.g_noPart
  | with_reducible apply AL.g_part
  | with_reducible apply AL.g_kPart
  | ((with_reducible apply AL.g_pen0); exact rfl; (walk_at "look"))
  | ((with_reducible apply AL.g_pen1); exact rfl; (walk_at "look"))
  | ((with_reducible apply AL.g_pen2); exact rfl; (walk_at "look"))
  | with_reducible apply AL.g_putK
  | ((with_reducible apply AL.g_kPut1); exact rfl; (walk_at "look"))
  | ((with_reducible apply AL.g_kPut2); exact rfl; (walk_at "look"))
  | with_reducible apply AL.g_par
  | ((with_reducible apply AL.g_kPar); (simp only [List.set_cons_zero, List.set_cons_succ]; exact rfl))
  | with_reducible apply AL.g_neg
  | with_reducible apply AL.g_chain
  | with_reducible apply AL.g_chain3
  | with_reducible apply AL.g_lenSet
  | with_reducible apply AL.g_inTab
  | with_reducible apply AL.g_kInTab
  | with_reducible apply AL.g_kNotInTab
  | with_reducible apply AL.g_ixTab
  | with_reducible apply AL.g_eqNil
  | with_reducible apply AL.g_neNil
  | with_reducible apply AL.g_iteT
  | with_reducible apply AL.g_iteF
  | with_reducible apply AL.g_iteNT
  | with_reducible apply AL.g_iteNF
  | with_reducible apply AL.g_for
  | with_reducible apply AL.g_il
  | with_reducible apply AL.g_it
  | with_reducible apply AL.g_is'
  | with_reducible apply AL.g_ikw
  | with_reducible apply AL.g_iiw
  | with_reducible apply AL.g_dispW
  | with_reducible apply AL.g_dict0W
  | with_reducible apply AL.g_ir1
  | with_reducible apply AL.g_ir3
  | ((with_reducible apply AL.g_kIR3); (omega))
  | with_reducible apply AL.g_ir2
  | with_reducible apply AL.g_ie
  | with_reducible apply AL.g_iz
  | with_reducible apply AL.g_kILl
  | with_reducible apply AL.g_kILr
  | with_reducible apply AL.g_kIT
  | with_reducible apply AL.g_kIS
  | with_reducible apply AL.g_kIE
  | with_reducible apply AL.g_kIZ
  | ((with_reducible apply AL.g_kIR1); (omega); (omega))
  | ((with_reducible apply AL.g_kIR2); (omega))
  | with_reducible apply AL.g_lc
  | with_reducible apply AL.g_lcM
  | ((with_reducible apply AL.g_bodyX); (simp only [List.map_cons, List.map_nil, List.length_cons, List.length_nil, List.cons_append, List.nil_append, List.reduceReplicate, Nat.reduceAdd, Nat.reduceSub]; exact rfl))
  | with_reducible apply AL.g_callX
  | with_reducible apply AL.g_raise
  | with_reducible apply AL.g_try
  | with_reducible apply AL.g_tryA
  | with_reducible apply AL.g_isX
  | with_reducible apply AL.g_get1
  | with_reducible apply AL.g_get2
  | with_reducible apply AL.g_getN
  | with_reducible apply AL.g_inN
  | with_reducible apply AL.g_get1N
  | with_reducible apply AL.g_putN
  | with_reducible apply AL.g_fld
  | with_reducible apply AL.g_fldPut
  | with_reducible apply AL.g_mth
  | with_reducible apply AL.g_mthX
  | with_reducible apply AL.g_make
  | with_reducible apply AL.g_setd
  | with_reducible apply AL.g_dispV
  | with_reducible apply AL.g_kDispVI
  | ((with_reducible apply AL.g_body'); (simp only [List.map_cons, List.map_nil, List.length_cons, List.length_nil, List.cons_append, List.nil_append, List.reduceReplicate, Nat.reduceAdd, Nat.reduceSub]; exact rfl))
  | ((with_reducible apply AL.g_sz); (simp only [List.length_cons, List.length_nil, PySem.sizeLine]; try omega))
  | ((with_reducible apply AL.g_ty); first | exact rfl | exact AL.isTy_ce (by walk_at "look") rfl))
local macro_rules | `(tactic| walk_at "go") => `(tactic| repeat walk_at "go1")
local macro_rules | `(tactic| walk_at "bo") => `(tactic| repeat (first | walk_at "go1" | with_reducible apply AL.g_kAndF | with_reducible apply AL.g_kAndT | with_reducible apply AL.g_kOrF | with_reducible apply AL.g_kOrT))
namespace A_k36
open PySem AL
def a_is_whole : AS' :=
  aRet (aAndV (aIsi "int" (aVar 0)) (aNotV (aIsi "bool" (aVar 0))))
def s_is_whole : ASp := aBody 1 a_is_whole
def a_led : AS' :=
  aSeq (aIfS (aB (aOp aIsN (aVar 1) (aC .non)))
  (aRet (aC .non))
  (aNext))
  (aRet (aOp aIx (aOp aIx (aOp aIx (aVar 0) (aC (.int 1))) (aVar 1)) (aVar 2)))
def s_led : ASp := aBody 3 a_led
def a_is_end : AS' :=
  aRet (aAndV (aOp aNotN (aVar 1) (aC .non)) (aOp aIx (aOp aIx (aVar 0) (aC (.int 0))) (aVar 1)))
def s_is_end : ASp := aBody 2 a_is_end
def a_law_pen : AS' :=
  aSeq (aAsg (aOp aAdd (aOp aMul (aC (.int 6151)) (aVar 1)) (aC (.int 3))) (aGName 2))
  (aSeq (aIfS (aB (aOp aLt (aVar 1) (aCall aLen (aCons (aVar 0) (aNil)))))
  (aAsg (aOp aIx (aVar 0) (aVar 1)) (aGName 2))
  (aIfS (aB (aOp aGt (aCall aLen (aCons (aVar 0) (aNil))) (aC (.int 0))))
  (aAsg (aOp aAdd (aOp aMod (aOp aIx (aVar 0) (aOp aMod (aVar 1) (aCall aLen (aCons (aVar 0) (aNil))))) (aC (.int 2147483629))) (aOp aMul (aC (.int 40503)) (aVar 1))) (aGName 2))
  (aNext)))
  (aSeq (aIfS (aB (aOp aGe (aVar 2) (aOp aPow (aC (.int 10)) (aC (.int 18)))))
  (aRet (aLstM (aCons (aOp aSub (aVar 2) (aOp aPow (aC (.int 10)) (aC (.int 18)))) (aCons (aOp aMod (aVar 2) (aC (.int 2147483587))) (aCons (aC (.int 0)) (aNil))))))
  (aNext))
  (aRet (aLstM (aCons (aC (.int 0)) (aCons (aOp aMod (aVar 2) (aC (.int 2147483587))) (aCons (aC (.int 0)) (aNil))))))))
def s_law_pen : ASp := aBody 3 a_law_pen
def a_law_draw : AS' :=
  aSeq (aAsg (aOp aAdd (aOp aIx (aVar 0) (aC (.int 2))) (aC (.int 1))) (aGSet (aVar 0) (aC (.int 2))))
  (aSeq (aIfS (aB (aOp aGt (aOp aIx (aVar 0) (aC (.int 0))) (aC (.int 0))))
  (aSeq (aAsg (aOp aMod (aOp aIx (aVar 0) (aC (.int 0))) (aVar 1)) (aGName 2))
  (aSeq (aAsg (aOp aDiv (aOp aIx (aVar 0) (aC (.int 0))) (aVar 1)) (aGSet (aVar 0) (aC (.int 0))))
  (aRet (aVar 2))))
  (aNext))
  (aSeq (aAsg (aOp aMod (aOp aAdd (aOp aAdd (aOp aIx (aVar 0) (aC (.int 1))) (aOp aMul (aC (.int 69621)) (aOp aIx (aVar 0) (aC (.int 2))))) (aC (.int 13))) (aC (.int 2147483629))) (aGName 3))
  (aSeq (aAsg (aOp aAdd (aOp aMod (aOp aMul (aVar 3) (aVar 3)) (aC (.int 2147483587))) (aOp aMul (aC (.int 6151)) (aOp aIx (aVar 0) (aC (.int 2))))) (aGName 3))
  (aSeq (aAsg (aOp aMod (aOp aMul (aVar 3) (aVar 3)) (aC (.int 2147483629))) (aGName 3))
  (aRet (aOp aMod (aOp aDiv (aVar 3) (aC (.int 64))) (aVar 1)))))))
def s_law_draw : ASp := aBody 4 a_law_draw
def a_law_goal : AS' :=
  aSeq (aIfS (aTru (aVar 0))
  (aRet (aC .non))
  (aNext))
  (aRet (aVar 1))
def s_law_goal : ASp := aBody 2 a_law_goal
def a_law_led : AS' :=
  aSeq (aIfS (aB (aOp aIsN (aVar 1) (aC .non)))
  (aRet (aC .non))
  (aNext))
  (aRet (aOp aIx (aOp aIx (aOp aIx (aVar 0) (aC (.int 1))) (aVar 1)) (aVar 2)))
def s_law_led : ASp := aBody 3 a_law_led
def a_law_is_end : AS' :=
  aRet (aAndV (aOp aNotN (aVar 1) (aC .non)) (aOp aIx (aOp aIx (aVar 0) (aC (.int 0))) (aVar 1)))
def s_law_is_end : ASp := aBody 2 a_law_is_end
def a_law_copied : AS' :=
  aRet (aTup (aCons (aCall aListOf (aCons (aOp aIx (aVar 0) (aC (.int 0))) (aNil))) (aCons (aLc (aIL (aOp aIx (aVar 0) (aC (.int 1)))) (aGName 1) (aYes) (aCall aListOf (aCons (aVar 1) (aNil))) [1]) (aNil))))
def s_law_copied : ASp := aBody 2 a_law_copied
def a_law_twin : AS' :=
  aSeq (aIfS (aB (aOp aIsN (aVar 0) (aC .non)))
  (aRet (aC .non))
  (aNext))
  (aRet (aOp aAdd (aOp aMul (aC (.int 2)) (aVar 0)) (aVar 1)))
def s_law_twin : ASp := aBody 2 a_law_twin
def a_law_is_place : AS' :=
  aSeq (aIfS (aB (aOp aIsN (aVar 1) (aC .non)))
  (aRet (aC (.bl true)))
  (aNext))
  (aRet (aAndV (aIsi "int" (aVar 1)) (aAndV (aNotV (aIsi "bool" (aVar 1))) (aChain aLe aLt (aC (.int 0)) (aVar 1) (aCall aLen (aCons (aOp aIx (aVar 0) (aC (.int 0))) (aNil)))))))
def s_law_is_place : ASp := aBody 2 a_law_is_place
def a_law_odd : AS' :=
  aSeq (aAsg (aLst (aCons (aLst (aCons (aOp aIx (aVar 0) (aC (.int 0))) (aCons (aOp aIx (aVar 0) (aC (.int 1))) (aNil)))) (aCons (aTup (aCons (aOp aIx (aVar 0) (aC (.int 0))) (aNil))) (aCons (aOp aAdd (aVar 0) (aTup (aCons (aC (.int 0)) (aNil)))) (aCons (aTup (aCons (aUn aNeg (aC (.int 1))) (aCons (aOp aIx (aVar 0) (aC (.int 1))) (aNil)))) (aCons (aTup (aCons (aVar 2) (aCons (aOp aIx (aVar 0) (aC (.int 1))) (aNil)))) (aCons (aTup (aCons (aC (.bl true)) (aCons (aOp aIx (aVar 0) (aC (.int 1))) (aNil)))) (aNil)))))))) (aGName 3))
  (aSeq (aAsg (aOp aAdd (aVar 3) (aLst (aCons (aTup (aCons (aC (.str "0")) (aCons (aOp aIx (aVar 0) (aC (.int 1))) (aNil)))) (aCons (aTup (aCons (aOp aIx (aVar 0) (aC (.int 0))) (aCons (aUn aNeg (aC (.int 1))) (aNil)))) (aCons (aTup (aCons (aOp aIx (aVar 0) (aC (.int 0))) (aCons (aOp aMul (aC (.int 2)) (aVar 2)) (aNil)))) (aCons (aTup (aCons (aOp aIx (aVar 0) (aC (.int 0))) (aCons (aC (.bl false)) (aNil)))) (aCons (aC .non) (aCons (aC (.str "ab")) (aCons (aC (.int 7)) (aNil)))))))))) (aGName 3))
  (aSeq (aAsg (aOp aAdd (aVar 3) (aLst (aCons (aTup (aCons (aLst (aCons (aOp aIx (aVar 0) (aC (.int 0))) (aNil))) (aCons (aOp aIx (aVar 0) (aC (.int 1))) (aNil)))) (aCons (aTup (aCons (aOp aIx (aVar 0) (aC (.int 0))) (aCons (aDict0F) (aNil)))) (aCons (aOp aRepT (aSl aCut (aVar 0) aNoPart (aPart (aC (.int 1)))) (aC (.int 3))) (aNil)))))) (aGName 3))
  (aRet (aOp aIx (aVar 3) (aVar 1)))))
def s_law_odd : ASp := aBody 4 a_law_odd
def a_law_turned : AS' :=
  aSeq (aIfS (aTru (aIsi "tuple" (aVar 0)))
  (aRet (aUn aRevT (aVar 0)))
  (aNext))
  (aRet (aVar 0))
def s_law_turned : ASp := aBody 1 a_law_turned
def a_is_parted : AS' :=
  aSeq (aAsg (aCall s_is_end (aCons (aVar 0) (aCons (aOp aIx (aVar 2) (aC (.int 0))) (aNil)))) (aGName 4))
  (aSeq (aAsg (aCall s_is_end (aCons (aVar 1) (aCons (aOp aIx (aVar 2) (aC (.int 1))) (aNil)))) (aGName 5))
  (aRet (aOrV (aAndV (aVar 4) (aNotV (aVar 5))) (aAndV (aVar 3) (aAndV (aVar 5) (aNotV (aVar 4)))))))
def s_is_parted : ASp := aBody 6 a_is_parted
def a_is_place : AS' :=
  aRet (aOrV (aOp aIsN (aVar 1) (aC .non)) (aAndV (aCall s_is_whole (aCons (aVar 1) (aNil))) (aChain aLe aLt (aC (.int 0)) (aVar 1) (aCall aLen (aCons (aOp aIx (aVar 0) (aC (.int 0))) (aNil))))))
def s_is_place : ASp := aBody 2 a_is_place
def a_law_machine : AS' :=
  aSeq (aAsg (aOp aAdd (aC (.int 1)) (aCall s_law_draw (aCons (aVar 0) (aCons (aVar 2) (aNil))))) (aGName 3))
  (aSeq (aAsg (aOp aIx (aLst (aCons (aC (.int 2)) (aCons (aC (.int 3)) (aCons (aC (.int 6)) (aNil))))) (aCall s_law_draw (aCons (aVar 0) (aCons (aC (.int 3)) (aNil))))) (aGName 4))
  (aSeq (aAsg (aLcM (aIR1 (aCons (aVar 3) (aNil))) (aGName 5) (aYes) (aOp aEq (aCall s_law_draw (aCons (aVar 0) (aCons (aVar 4) (aNil)))) (aC (.int 0))) [5]) (aGName 6))
  (aSeq (aAsg (aOp aIx (aLst (aCons (aC (.int 1)) (aCons (aC (.int 3)) (aCons (aC (.int 8)) (aNil))))) (aCall s_law_draw (aCons (aVar 0) (aCons (aC (.int 3)) (aNil))))) (aGName 7))
  (aSeq (aAsg (aLstM (aNil)) (aGName 8))
  (aSeq (aFor (aIR1 (aCons (aVar 3) (aNil))) (aGName 5)
  (aDrop (aMeth "list" aAppend (aVar 8) (aCons (aLcM (aIR1 (aCons (aVar 1) (aNil))) (aGName 9) (aYes) (aCall s_law_goal (aCons (aOp aLt (aCall s_law_draw (aCons (aVar 0) (aCons (aC (.int 8)) (aNil)))) (aVar 7)) (aCons (aCall s_law_draw (aCons (aVar 0) (aCons (aVar 3) (aNil)))) (aNil)))) [9]) (aNil)))))
  (aRet (aTup (aCons (aVar 6) (aCons (aVar 8) (aNil))))))))))
def s_law_machine : ASp := aBody 10 a_law_machine
def a_law_doubled : AS' :=
  aSeq (aAsg (aLstM (aNil)) (aGName 3))
  (aSeq (aAsg (aLstM (aNil)) (aGName 4))
  (aSeq (aFor (aIE (aCons (aOp aIx (aVar 1) (aC (.int 1))) (aNil))) (aGTup 2 (aGCons (aGName 5) (aGCons (aGName 6) (aGNil))))
  (aFor (aIR1 (aCons (aC (.int 2)) (aNil))) (aGName 7)
  (aSeq (aDrop (aMeth "list" aAppend (aVar 3) (aCons (aOp aIx (aOp aIx (aVar 1) (aC (.int 0))) (aVar 5)) (aNil))))
  (aDrop (aMeth "list" aAppend (aVar 4) (aCons (aLcM (aIL (aVar 6)) (aGName 10) (aYes) (aCall s_law_twin (aCons (aVar 10) (aCons (aCall s_law_draw (aCons (aVar 0) (aCons (aC (.int 2)) (aNil)))) (aNil)))) [10]) (aNil)))))))
  (aSeq (aAsg (aCall s_law_draw (aCons (aVar 0) (aCons (aCall aLen (aCons (aVar 3) (aNil))) (aNil)))) (aGName 8))
  (aSeq (aIfS (aB (aOp aEq (aVar 2) (aC (.int 1))))
  (aNoS)
  (aNext))
  (aSeq (aIfS (aB (aOp aEq (aVar 2) (aC (.int 2))))
  (aSeq (aAsg (aCall s_law_draw (aCons (aVar 0) (aCons (aCall aLen (aCons (aOp aIx (aVar 4) (aC (.int 0))) (aNil))) (aNil)))) (aGName 9))
  (aNoS))
  (aNext))
  (aSeq (aIfS (aB (aOp aEq (aVar 2) (aC (.int 3))))
  (aNoS)
  (aNext))
  (aRet (aTup (aCons (aVar 3) (aCons (aVar 4) (aNil)))))))))))
def s_law_doubled : ASp := aBody 11 a_law_doubled
def a_law_are_pairs : AS' :=
  aSeq (aIfS (aNot (aTru (aIsi "list" (aVar 2))))
  (aRet (aC (.bl false)))
  (aNext))
  (aSeq (aFor (aIL (aVar 2)) (aGName 3)
  (aSeq (aIfS (aOr (aNot (aTru (aIsi "tuple" (aVar 3)))) (aB (aOp aNe (aCall aLen (aCons (aVar 3) (aNil))) (aC (.int 2)))))
  (aRet (aC (.bl false)))
  (aNext))
  (aIfS (aOr (aNot (aTru (aCall s_law_is_place (aCons (aVar 0) (aCons (aOp aIx (aVar 3) (aC (.int 0))) (aNil)))))) (aNot (aTru (aCall s_law_is_place (aCons (aVar 1) (aCons (aOp aIx (aVar 3) (aC (.int 1))) (aNil)))))))
  (aRet (aC (.bl false)))
  (aNext))))
  (aRet (aC (.bl true))))
def s_law_are_pairs : ASp := aBody 4 a_law_are_pairs
def a_law_mixed : AS' :=
  aSeq (aAsg (aLstM (aNil)) (aGName 2))
  (aSeq (aFor (aIL (aVar 1)) (aGName 3)
  (aSeq (aDrop (aMeth "list" aInsert (aVar 2) (aCons (aCall s_law_draw (aCons (aVar 0) (aCons (aOp aAdd (aCall aLen (aCons (aVar 2) (aNil))) (aC (.int 1))) (aNil)))) (aCons (aVar 3) (aNil)))))
  (aIfS (aB (aOp aEq (aCall s_law_draw (aCons (aVar 0) (aCons (aC (.int 6)) (aNil)))) (aC (.int 0))))
  (aDrop (aMeth "list" aAppend (aVar 2) (aCons (aVar 3) (aNil))))
  (aNext))))
  (aFrz 2 (aRet (aVar 2))))
def s_law_mixed : ASp := aBody 4 a_law_mixed
def a_law_bent : AS' :=
  aSeq (aAsg (aCall s_law_draw (aCons (aVar 0) (aCons (aC (.int 10)) (aNil)))) (aGName 4))
  (aSeq (aAsg (aCall s_law_draw (aCons (aVar 0) (aCons (aCall aLen (aCons (aVar 3) (aNil))) (aNil)))) (aGName 5))
  (aSeq (aAsg (aCall aLen (aCons (aOp aIx (aVar 1) (aC (.int 0))) (aNil))) (aGName 6))
  (aSeq (aIfS (aB (aOp aLt (aVar 4) (aC (.int 2))))
  (aSeq (aAsg (aOp aIx (aVar 3) (aVar 5)) (aGName 7))
  (aRet (aLc (aIL (aVar 3)) (aGName 12) (aB (aOp ((aEqX true)) (aVar 12) (aVar 7))) (aVar 12) [12])))
  (aNext))
  (aSeq (aIfS (aB (aOp aLt (aVar 4) (aC (.int 4))))
  (aRet (aOp aAdd (aOp aAdd (aSl aCut (aVar 3) aNoPart (aPart (aVar 5))) (aLst (aCons (aTup (aCons (aCall s_law_draw (aCons (aVar 0) (aCons (aVar 6) (aNil)))) (aCons (aCall s_law_draw (aCons (aVar 0) (aCons (aOp aMul (aC (.int 2)) (aVar 6)) (aNil)))) (aNil)))) (aNil)))) (aSl aCut (aVar 3) (aPart (aVar 5)) aNoPart)))
  (aNext))
  (aSeq (aIfS (aB (aOp aEq (aVar 4) (aC (.int 4))))
  (aSeq (aAsg (aOp aIx (aLst (aCons (aTup (aCons (aC .non) (aCons (aCall s_law_draw (aCons (aVar 0) (aCons (aOp aMul (aC (.int 2)) (aVar 6)) (aNil)))) (aNil)))) (aCons (aTup (aCons (aCall s_law_draw (aCons (aVar 0) (aCons (aVar 6) (aNil)))) (aCons (aC .non) (aNil)))) (aCons (aTup (aCons (aC .non) (aCons (aC .non) (aNil)))) (aNil))))) (aCall s_law_draw (aCons (aVar 0) (aCons (aC (.int 3)) (aNil))))) (aGName 8))
  (aRet (aOp aAdd (aOp aAdd (aSl aCut (aVar 3) aNoPart (aPart (aVar 5))) (aLst (aCons (aVar 8) (aNil)))) (aSl aCut (aVar 3) (aPart (aVar 5)) aNoPart))))
  (aNext))
  (aSeq (aIfS (aB (aOp aEq (aVar 4) (aC (.int 5))))
  (aSeq (aAsg (aOp aIx (aLst (aCons (aVar 1) (aCons (aVar 2) (aNil)))) (aCall s_law_draw (aCons (aVar 0) (aCons (aC (.int 2)) (aNil))))) (aGName 9))
  (aSeq (aAsg (aCall s_law_draw (aCons (aVar 0) (aCons (aCall aLen (aCons (aOp aIx (aVar 9) (aC (.int 0))) (aNil))) (aNil)))) (aGName 10))
  (aAsg (aNotV (aOp aIx (aOp aIx (aVar 9) (aC (.int 0))) (aVar 10))) (aGSet (aOp aIx (aVar 9) (aC (.int 0))) (aVar 10)))))
  (aNext))
  (aSeq (aIfS (aB (aOp aEq (aVar 4) (aC (.int 6))))
  (aSeq (aAsg (aOp aIx (aLst (aCons (aVar 1) (aCons (aVar 2) (aNil)))) (aCall s_law_draw (aCons (aVar 0) (aCons (aC (.int 2)) (aNil))))) (aGName 9))
  (aSeq (aAsg (aOp aIx (aOp aIx (aVar 9) (aC (.int 1))) (aCall s_law_draw (aCons (aVar 0) (aCons (aCall aLen (aCons (aOp aIx (aVar 9) (aC (.int 0))) (aNil))) (aNil))))) (aGName 11))
  (aAsg (aCall s_law_goal (aCons (aOp aEq (aCall s_law_draw (aCons (aVar 0) (aCons (aC (.int 3)) (aNil)))) (aC (.int 0))) (aCons (aCall s_law_draw (aCons (aVar 0) (aCons (aCall aLen (aCons (aOp aIx (aVar 9) (aC (.int 0))) (aNil))) (aNil)))) (aNil)))) (aGSet (aVar 11) (aCall s_law_draw (aCons (aVar 0) (aCons (aCall aLen (aCons (aVar 11) (aNil))) (aNil))))))))
  (aNext))
  (aSeq (aIfS (aB (aOp aEq (aVar 4) (aC (.int 7))))
  (aRet (aOp aAdd (aOp aAdd (aSl aCut (aVar 3) aNoPart (aPart (aVar 5))) (aLst (aCons (aCall s_law_odd (aCons (aOp aIx (aVar 3) (aVar 5)) (aCons (aCall s_law_draw (aCons (aVar 0) (aCons (aC (.int 16)) (aNil)))) (aCons (aVar 6) (aNil))))) (aNil)))) (aSl aCut (aVar 3) (aPart (aOp aAdd (aVar 5) (aC (.int 1)))) aNoPart)))
  (aNext))
  (aRet (aVar 3))))))))))
def s_law_bent : ASp := aBody 13 a_law_bent
def a_are_pairs : AS' :=
  aSeq (aIfS (aNot (aTru (aIsi "list" (aVar 2))))
  (aRet (aC (.bl false)))
  (aNext))
  (aSeq (aFor (aIL (aVar 2)) (aGName 3)
  (aSeq (aIfS (aOr (aNot (aTru (aIsi "tuple" (aVar 3)))) (aB (aOp aNe (aCall aLen (aCons (aVar 3) (aNil))) (aC (.int 2)))))
  (aRet (aC (.bl false)))
  (aNext))
  (aIfS (aOr (aNot (aTru (aCall s_is_place (aCons (aVar 0) (aCons (aOp aIx (aVar 3) (aC (.int 0))) (aNil)))))) (aNot (aTru (aCall s_is_place (aCons (aVar 1) (aCons (aOp aIx (aVar 3) (aC (.int 1))) (aNil)))))))
  (aRet (aC (.bl false)))
  (aNext))))
  (aRet (aOp ((aInDp false)) (aTup (aCons (aC (.int 0)) (aCons (aC (.int 0)) (aNil)))) (aVar 2))))
def s_are_pairs : ASp := aBody 4 a_are_pairs
def a_is_shut : AS' :=
  aSeq (aAsg (aCall aDictW (aCons (aLc (aIL (aVar 2)) (aGName 4) (aYes) (aTup (aCons (aVar 4) (aCons (aC (.bl true)) (aNil)))) [4]) (aNil))) (aGName 5))
  (aSeq (aFor (aIKW (aVar 5)) (aGName 4)
  (aSeq (aIfS (aTru (aCall s_is_parted (aCons (aVar 0) (aCons (aVar 1) (aCons (aVar 4) (aCons (aVar 3) (aNil)))))))
  (aRet (aC (.bl false)))
  (aNext))
  (aFor (aIR1 (aCons (aCall aLen (aCons (aOp aIx (aOp aIx (aVar 0) (aC (.int 1))) (aC (.int 0))) (aNil))) (aNil))) (aGName 6)
  (aSeq (aAsg (aTup (aCons (aCall s_led (aCons (aVar 0) (aCons (aOp aIx (aVar 4) (aC (.int 0))) (aCons (aVar 6) (aNil))))) (aCons (aCall s_led (aCons (aVar 1) (aCons (aOp aIx (aVar 4) (aC (.int 1))) (aCons (aVar 6) (aNil))))) (aNil)))) (aGName 7))
  (aSeq (aAsg (aOrV (aOp aNotN (aOp aIx (aVar 7) (aC (.int 0))) (aC .non)) (aAndV (aVar 3) (aOp aNotN (aOp aIx (aVar 7) (aC (.int 1))) (aC .non)))) (aGName 8))
  (aIfS (aAnd (aTru (aVar 8)) (aB (aInN true (aVar 7) (aVar 5))))
  (aRet (aC (.bl false)))
  (aNext)))))))
  (aRet (aC (.bl true))))
def s_is_shut : ASp := aBody 9 a_is_shut
def a_law_hold : AS' :=
  aSeq (aIfS (aOr (aNot (aTru (aCall s_law_are_pairs (aCons (aVar 0) (aCons (aVar 1) (aCons (aVar 2) (aNil))))))) (aB (aOp ((aInDp true)) (aTup (aCons (aC (.int 0)) (aCons (aC (.int 0)) (aNil)))) (aVar 2))))
  (aRet (aC (.bl false)))
  (aNext))
  (aSeq (aAsg (aDict0N) (aGName 4))
  (aSeq (aFor (aIL (aVar 2)) (aGName 5)
  (aPutN (aVar 4) (aVar 5) (aC (.bl true))))
  (aSeq (aFor (aIL (aVar 2)) (aGTup 2 (aGCons (aGName 6) (aGCons (aGName 7) (aGNil))))
  (aSeq (aAsg (aCall s_law_is_end (aCons (aVar 0) (aCons (aVar 6) (aNil)))) (aGName 8))
  (aSeq (aAsg (aCall s_law_is_end (aCons (aVar 1) (aCons (aVar 7) (aNil)))) (aGName 9))
  (aSeq (aIfS (aOr (aAnd (aTru (aVar 8)) (aNot (aTru (aVar 9)))) (aOr (aAnd (aTru (aVar 3)) (aAnd (aTru (aVar 9)) (aNot (aTru (aVar 8))))) (aAnd (aNot (aTru (aVar 3))) (aB (aOp aIsN (aVar 6) (aC .non))))))
  (aRet (aC (.bl false)))
  (aNext))
  (aFor (aIR1 (aCons (aCall aLen (aCons (aOp aIx (aOp aIx (aVar 0) (aC (.int 1))) (aC (.int 0))) (aNil))) (aNil))) (aGName 10)
  (aSeq (aAsg (aTup (aCons (aCall s_law_led (aCons (aVar 0) (aCons (aVar 6) (aCons (aVar 10) (aNil))))) (aCons (aCall s_law_led (aCons (aVar 1) (aCons (aVar 7) (aCons (aVar 10) (aNil))))) (aNil)))) (aGName 11))
  (aIfS (aAnd (aB (aInN true (aVar 11) (aVar 4))) (aOr (aB (aOp aNotN (aOp aIx (aVar 11) (aC (.int 0))) (aC .non))) (aAnd (aTru (aVar 3)) (aB (aOp aNotN (aOp aIx (aVar 11) (aC (.int 1))) (aC .non))))))
  (aRet (aC (.bl false)))
  (aNext))))))))
  (aRet (aC (.bl true))))))
def s_law_hold : ASp := aBody 12 a_law_hold
def a_holds_alike : AS' :=
  aRet (aAndV (aCall s_are_pairs (aCons (aVar 0) (aCons (aVar 1) (aCons (aVar 2) (aNil))))) (aCall s_is_shut (aCons (aVar 0) (aCons (aVar 1) (aCons (aVar 2) (aCons (aC (.bl true)) (aNil)))))))
def s_holds_alike : ASp := aBody 3 a_holds_alike
def a_holds_within : AS' :=
  aSeq (aIfS (aOr (aNot (aTru (aCall s_are_pairs (aCons (aVar 0) (aCons (aVar 1) (aCons (aVar 2) (aNil))))))) (aB (aOp aInL (aC .non) (aLc (aIL (aVar 2)) (aGName 3) (aYes) (aOp aIx (aVar 3) (aC (.int 0))) [3]))))
  (aRet (aC (.bl false)))
  (aNext))
  (aRet (aCall s_is_shut (aCons (aVar 0) (aCons (aVar 1) (aCons (aVar 2) (aCons (aC (.bl false)) (aNil)))))))
def s_holds_within : ASp := aBody 4 a_holds_within
def a_law_asked : AS' :=
  aSeq (aAsg (aTup (aCons (aCall s_law_copied (aCons (aVar 0) (aNil))) (aCons (aCall s_law_copied (aCons (aVar 1) (aNil))) (aNil)))) (aGName 3))
  (aSeq (aAsg (aCall aListOf (aCons (aVar 2) (aNil))) (aGName 4))
  (aSeq (aFor (aIL (aLst (aCons (aTup (aCons (aC (.bl true)) (aCons (aCall s_holds_alike (aCons (aVar 0) (aCons (aVar 1) (aCons (aVar 4) (aNil))))) (aNil)))) (aCons (aTup (aCons (aC (.bl false)) (aCons (aCall s_holds_within (aCons (aVar 0) (aCons (aVar 1) (aCons (aVar 4) (aNil))))) (aNil)))) (aNil))))) (aGTup 2 (aGCons (aGName 5) (aGCons (aGName 6) (aGNil))))
  (aIfS (aOr (aNot (aTru (aIsi "bool" (aVar 6)))) (aB (aOp aNe (aVar 6) (aCall s_law_hold (aCons (aVar 0) (aCons (aVar 1) (aCons (aVar 2) (aCons (aVar 5) (aNil)))))))))
  (aRet (aC (.bl false)))
  (aNext)))
  (aRet (aAndV (aOp ((aEqX false)) (aVar 4) (aVar 2)) (aOp ((aEqX false)) (aTup (aCons (aVar 0) (aCons (aVar 1) (aNil)))) (aVar 3))))))
def s_law_asked : ASp := aBody 7 a_law_asked
def a_law : AS' :=
  aSeq (aFor (aIR1 (aCons (aC (.int 3)) (aNil))) (aGName 1)
  (aSeq (aAsg (aCall s_law_pen (aCons (aVar 0) (aCons (aVar 1) (aNil)))) (aGName 2))
  (aSeq (aAsg (aCall s_law_machine (aCons (aVar 2) (aCons (aOp aAdd (aC (.int 1)) (aCall s_law_draw (aCons (aVar 2) (aCons (aOp aIx (aLst (aCons (aC (.int 2)) (aCons (aC (.int 3)) (aCons (aC (.int 3)) (aCons (aC (.int 12)) (aNil)))))) (aCall s_law_draw (aCons (aVar 2) (aCons (aC (.int 4)) (aNil))))) (aNil))))) (aCons (aC (.int 9)) (aNil))))) (aGName 3))
  (aSeq (aAsg (aCall s_law_doubled (aCons (aVar 2) (aCons (aVar 3) (aCons (aC (.int 0)) (aNil))))) (aGName 4))
  (aSeq (aAsg (aLst (aNil)) (aGName 5))
  (aSeq (aFor (aIR1 (aCons (aCall aLen (aCons (aOp aIx (aVar 3) (aC (.int 0))) (aNil))) (aNil))) (aGName 6)
  (aAsg (aOp aAdd (aVar 5) (aLst (aCons (aTup (aCons (aVar 6) (aCons (aOp aMul (aC (.int 2)) (aVar 6)) (aNil)))) (aCons (aTup (aCons (aVar 6) (aCons (aOp aAdd (aOp aMul (aC (.int 2)) (aVar 6)) (aC (.int 1))) (aNil)))) (aNil))))) (aGName 5)))
  (aSeq (aAsg (aCall s_law_mixed (aCons (aVar 2) (aCons (aOp aAdd (aVar 5) (aOp (aRepL false) (aLst (aCons (aTup (aCons (aC .non) (aCons (aC .non) (aNil)))) (aNil))) (aCall s_law_draw (aCons (aVar 2) (aCons (aC (.int 2)) (aNil)))))) (aNil)))) (aGName 5))
  (aSeq (aIfS (aNot (aTru (aCall s_law_asked (aCons (aVar 3) (aCons (aVar 4) (aCons (aVar 5) (aNil)))))))
  (aRet (aC (.bl false)))
  (aNext))
  (aSeq (aAsg (aCall s_law_bent (aCons (aVar 2) (aCons (aVar 3) (aCons (aVar 4) (aCons (aVar 5) (aNil)))))) (aGName 5))
  (aSeq (aIfS (aOr (aNot (aTru (aCall s_law_asked (aCons (aVar 3) (aCons (aVar 4) (aCons (aVar 5) (aNil))))))) (aNot (aTru (aCall s_law_asked (aCons (aVar 4) (aCons (aVar 3) (aCons (aLc (aIL (aVar 5)) (aGName 8) (aYes) (aCall s_law_turned (aCons (aVar 8) (aNil))) [8]) (aNil))))))))
  (aRet (aC (.bl false)))
  (aNext))
  (aFor (aIL (aLst (aCons (aC .non) (aCons (aCall aTupleOf (aCons (aVar 5) (aNil))) (aCons (aDict0F) (aCons (aC (.str "pairs")) (aCons (aC (.int 0)) (aCons (aC (.bl true)) (aCons (aLst (aCons (aVar 5) (aNil))) (aNil)))))))))) (aGName 7)
  (aIfS (aOr (aB (aOp aNotBl (aCall s_holds_alike (aCons (aVar 3) (aCons (aVar 4) (aCons (aVar 7) (aNil))))) (aC (.bl false)))) (aB (aOp aNotBl (aCall s_holds_within (aCons (aVar 3) (aCons (aVar 4) (aCons (aVar 7) (aNil))))) (aC (.bl false)))))
  (aRet (aC (.bl false)))
  (aNext)))))))))))))
  (aRet (aC (.bl true)))
def s_law : ASp := aBody 9 a_law
end A_k36
namespace A_k36
open PySem L2 AL
/-- so many may still be drawn -/
def PenC (k : Nat) (c : Cell) : Prop := ∃ f g h : Int, c = .lst [.int f, .int g, .int h] ∧ 0 ≤ f ∧ 0 ≤ h ∧ h + (k : Int) ≤ 1099511627776
def Pen (k : Nat) (C : AH) (p : Addr) : Prop := ∃ c, C p = some c ∧ PenC k c
theorem pen_put {k : Nat} {C : AH} {p : Addr} {c : Cell} (h : PenC k c) : Pen k (put C p c) p := ⟨c, put_same, h⟩
theorem Pen.less {k n : Nat} {C : AH} {p : Addr} (h : Pen n C p) (hk : k ≤ n := by omega) : Pen k C p := by
  obtain ⟨c, h1, f, g, u, h2, h3, h4, h5⟩ := h
  exact ⟨c, h1, f, g, u, h2, h3, h4, by omega⟩
theorem Pen.other {k : Nat} {C : AH} {p q : Addr} {c : Cell} (h : Pen k C p) (hn : p ≠ q) : Pen k (put C q c) p := by
  obtain ⟨d, h1, h2⟩ := h
  exact ⟨d, put_other hn h1, h2⟩
theorem Pen.otherD {k : Nat} {C : AH} {p q : Addr} (h : Pen k C p) (hn : p ≠ q) : Pen k (del C q) p := by
  obtain ⟨d, h1, h2⟩ := h
  exact ⟨d, del_other hn h1, h2⟩
theorem draw_ok {n : Nat} {p : Addr} {m : Nat} {C : AH} {P : D → AH → Prop} (hp : Pen (n + 1) C p) (hm : 0 < m) (hm2 : m < 1073741824)
    (k : ∀ c (d : Nat), PenC n c → d < m → P (.int d) (put C p c)) : s_law_draw [.ce p, .int m] C P := by
  have k2 : ∀ c (d : Int), PenC n c → 0 ≤ d → d < m → P (.int d) (put C p c) := by
    intro c d hc h0 h1
    have e : d = ((d.toNat : Nat) : Int) := by omega
    rw [e]
    exact k c d.toNat hc (by omega)
  obtain ⟨_, hC, f, g, u, rfl, hf, hu0, hu⟩ := hp
  unfold s_law_draw a_law_draw
  walk_at "go"
  rw [show [D.int f, D.int g, D.int u].set (Int.toNat 2) (D.int (u + 1)) = [D.int f, D.int g, D.int (u + 1)] from rfl]
  walk_at "go"
  refine g_ifS ?_
  walk_at "go"
  refine g_iteD (fun h => ?_) (fun h => ?_)
  · walk_at "go"
    rw [show [D.int f, D.int g, D.int (u + 1)].set (Int.toNat 0) (D.int (f / (m : Int))) = [D.int (f / (m : Int)), D.int g, D.int (u + 1)] from rfl, put_put]
    exact k2 _ _ ⟨_, _, _, rfl, Int.ediv_nonneg hf (by omega), by omega, by omega⟩ (Int.emod_nonneg _ (by omega)) (Int.emod_lt_of_pos _ (by omega))
  · walk_at "go"
    exact k2 _ _ ⟨_, _, _, rfl, hf, by omega, by omega⟩ (Int.emod_nonneg _ (by omega)) (Int.emod_lt_of_pos _ (by omega))
theorem g_ixR' {ns : List Int} {i : Int} {j : Nat} {C : AH} {P : D → AH → Prop} (e : i = (j : Int)) (hj : j < ns.length) (h : ∀ x, P (.int x) C) : aIx (.scr ns) (.int i) C P := by
  refine g_ixR (d := .int (ns.getD j 0)) ?_ (h _)
  rw [e]
  refine atI_nat' ?_
  rw [List.getElem?_map, List.getElem?_eq_getElem hj]
  simp [List.getD, List.getElem?_eq_getElem hj]
theorem pen_ok {ns : List Int} {j : Nat} {C : AH} {P : D → AH → Prop} (hj : j < 1000) (k : ∀ p c, C p = none → PenC 1000000 c → P (.ce p) (put C p c)) : s_law_pen [.scr ns, .int j] C P := by
  unfold s_law_pen a_law_pen
  walk_at "go"
  refine g_ifJ (fun st C' => ∃ x : Int, st = [some (.scr ns), some (.int j), some (.int x)] ∧ C' = C) (fun N hN => ?_) (fun st C' hw => ?_)
  · refine g_ifS ?_
    walk_at "go"
    refine g_iteD (fun h => ?_) (fun h => ?_)
    · walk_at "go"
      refine g_ixR' (j := j) rfl (by omega) fun x => ?_
      walk_at "go"
      exact hN _ _ ⟨_, rfl, rfl⟩
    · refine g_ifS ?_
      walk_at "go"
      refine g_iteD (fun h => ?_) (fun h => ?_)
      · have hl : 0 < ns.length := by omega
        walk_at "go"
        refine g_ixR' (j := j % ns.length) (by simp) (Nat.mod_lt _ hl) fun x => ?_
        walk_at "go"
        exact hN _ _ ⟨_, rfl, rfl⟩
      · walk_at "go"
        exact hN _ _ ⟨_, rfl, rfl⟩
  · obtain ⟨x, rfl, rfl⟩ := hw
    walk_at "go"
    refine g_ifS ?_
    walk_at "go"
    refine g_iteD (fun h => ?_) (fun h => ?_)
    · walk_at "go"
      intro p hp
      exact k p _ hp ⟨_, _, _, rfl, by omega, by omega, by omega⟩
    · walk_at "go"
      intro p hp
      exact k p _ hp ⟨_, _, _, rfl, by omega, by omega, by omega⟩
end A_k36
namespace A_k36
open PySem L2 AL
/-- things: lists and tuples of things, empty dicts -/
inductive Tq : Nat → D → Prop
  | non (n : Nat) : Tq n .non
  | bl (n : Nat) (b : Bool) : Tq n (.bl b)
  | int (n : Nat) (i : Int) : Tq n (.int i)
  | str (n : Nat) (z : Str) : Tq n (.str z)
  | dk (n : Nat) : Tq (n + 1) (.dk [])
  | lst {n : Nat} {us : List D} : us.length ≤ 2000 → (∀ d ∈ us, Tq n d) → Tq (n + 1) (.lst us)
  | tup {n : Nat} {us : List D} : us.length ≤ 2000 → (∀ d ∈ us, Tq n d) → Tq (n + 1) (.tup us)
theorem Tq.succ : ∀ {n : Nat} {d : D}, Tq n d → Tq (n + 1) d := by
  intro n
  induction n with
  | zero => intro d h; cases h with
    | non => exact .non _ | bl => exact .bl _ _ | int => exact .int _ _ | str => exact .str _ _
  | succ n ih => intro d h; cases h with
    | non => exact .non _ | bl => exact .bl _ _ | int => exact .int _ _ | str => exact .str _ _ | dk => exact .dk _
    | lst h1 h2 => exact .lst h1 fun d hd => ih (h2 d hd)
    | tup h1 h2 => exact .tup h1 fun d hd => ih (h2 d hd)
theorem Tq.mono {n m : Nat} {d : D} (h : Tq n d) (hm : n ≤ m) : Tq m d := by
  induction hm with
  | refl => exact h
  | step _ ih => exact ih.succ
def isBlD : D → Bool | .bl _ => true | _ => false
def isIntD : D → Bool | .int _ => true | _ => false
def isLstD : D → Bool | .lst _ => true | _ => false
def isTupD : D → Bool | .tup _ => true | _ => false
theorem kd {n : Nat} {d : D} (h : Tq n d) (C : AH) : ∃ t, kindOf C d = some t ∧ isT "bool" t = isBlD d ∧ isT "int" t = (isBlD d || isIntD d) ∧ isT "list" t = isLstD d ∧ isT "tuple" t = isTupD d := by
  cases h with
  | non => exact ⟨_, rfl, rfl, rfl, rfl, rfl⟩
  | bl => exact ⟨_, rfl, rfl, rfl, rfl, rfl⟩
  | int => exact ⟨_, rfl, rfl, rfl, rfl, rfl⟩
  | str => exact ⟨_, rfl, rfl, rfl, rfl, rfl⟩
  | dk => exact ⟨_, rfl, rfl, rfl, rfl, rfl⟩
  | lst => exact ⟨_, rfl, rfl, rfl, rfl, rfl⟩
  | tup => exact ⟨_, rfl, rfl, rfl, rfl, rfl⟩
section
variable {C : AH} {P : D → AH → Prop}
theorem g_kTupD {n : Nat} {d : D} (h : Tq n d) (k : P (.bl (isTupD d)) C) : kIsi "tuple" P d C := by
  obtain ⟨t, h1, _, _, _, h2⟩ := kd h C
  exact g_kIsi h1 (h2 ▸ k)
theorem g_kLstD {n : Nat} {d : D} (h : Tq n d) (k : P (.bl (isLstD d)) C) : kIsi "list" P d C := by
  obtain ⟨t, h1, _, _, h2, _⟩ := kd h C
  exact g_kIsi h1 (h2 ▸ k)
theorem g_kBlD {n : Nat} {d : D} (h : Tq n d) (k : P (.bl (isBlD d)) C) : kIsi "bool" P d C := by
  obtain ⟨t, h1, h2, _⟩ := kd h C
  exact g_kIsi h1 (h2 ▸ k)
theorem g_kIntD {n : Nat} {d : D} (h : Tq n d) (k : P (.bl (isBlD d || isIntD d)) C) : kIsi "int" P d C := by
  obtain ⟨t, h1, _, h2, _⟩ := kd h C
  exact g_kIsi h1 (h2 ▸ k)
theorem all_yes (n : Nat) : ((List.range n).all fun _ => true) = true := by simp
theorem eqD_self : ∀ {n : Nat} {d : D}, Tq n d → EqD n d d true := by
  intro n
  induction n with
  | zero => intro d h; cases h with
    | non => exact .flat rfl
    | bl b => exact .flat (by show some (decide (_ = _)) = some true; simp)
    | int i => exact .flat (by show some (decide (_ = _)) = some true; simp)
    | str z => exact .flat (by show some (decide (_ = _)) = some true; simp)
  | succ n ih => intro d h; cases h with
    | non => exact .flat rfl
    | bl b => exact .flat (by show some (decide (_ = _)) = some true; simp)
    | int i => exact .flat (by show some (decide (_ = _)) = some true; simp)
    | str z => exact .flat (by show some (decide (_ = _)) = some true; simp)
    | dk => exact .dk0
    | @lst _ us h1 h2 =>
      have := EqD.lsts (n := n) (us := us) (ws := us) (e := fun _ => true) rfl fun j h _ => ih (h2 _ (List.getElem_mem h))
      rw [all_yes] at this
      exact this
    | @tup _ us h1 h2 =>
      have := EqD.tups (n := n) (us := us) (ws := us) (e := fun _ => true) fun j h _ => ih (h2 _ (List.getElem_mem h))
      rw [all_yes] at this
      simpa using this
theorem EqD.up : ∀ {n : Nat} {d e : D} {b : Bool}, EqD n d e b → ∀ m, n ≤ m → EqD m d e b := by
  intro n
  induction n with
  | zero => intro d e b h m _; cases h with | flat h => exact .flat h
  | succ n ih =>
    intro d e b h m hm
    obtain ⟨m, rfl⟩ : ∃ m', m = m' + 1 := ⟨m - 1, by omega⟩
    cases h with
    | flat h => exact .flat h
    | lsts h1 h2 => exact .lsts h1 fun j a b => ih (h2 j a b) m (by omega)
    | lstsN h => exact .lstsN h
    | tups h => exact .tups fun j a b => ih (h j a b) m (by omega)
    | lstF h => exact .lstF h
    | tupF h => exact .tupF h
    | fLst h => exact .fLst h
    | fTup h => exact .fTup h
    | lstTup => exact .lstTup
    | tupLst => exact .tupLst
    | dk0 => exact .dk0
    | dkBl => exact .dkBl
end
end A_k36
namespace A_k36
open PySem L2 AL
/-- a machine of cells -/
def Rws (C : AH) (qs : List Addr) (R : List (List (Option Nat))) : Prop := qs.length = R.length ∧ ∀ (i : Nat) q row, qs[i]? = some q → R[i]? = some row → C q = some (.lst (row.map oD))
def Cm (C : AH) (d : D) (E : List Bool) (R : List (List (Option Nat))) : Prop := ∃ pe pg qs, d = .tup [.ce pe, .ce pg] ∧ C pe = some (.lst (E.map .bl)) ∧ C pg = some (.lst (qs.map .ce)) ∧ Rws C qs R
theorem Rws.keep {C C' : AH} {qs : List Addr} {R : List (List (Option Nat))} (h : Rws C qs R) (hK : AL.Keep C C') : Rws C' qs R := ⟨h.1, fun i q row h1 h2 => hK _ _ (h.2 i q row h1 h2)⟩
theorem Cm.keep {C C' : AH} {d : D} {E : List Bool} {R : List (List (Option Nat))} (h : Cm C d E R) (hK : AL.Keep C C') : Cm C' d E R := by
  obtain ⟨pe, pg, qs, h1, h2, h3, h4⟩ := h
  exact ⟨pe, pg, qs, h1, hK _ _ h2, hK _ _ h3, h4.keep hK⟩
theorem Rws.snoc {H : AH} {qs : List Addr} {R : List (List (Option Nat))} {w : Addr} {row : List (Option Nat)} (h : Rws H qs R) (hw : H w = none) : Rws (put H w (.lst (row.map oD))) (qs ++ [w]) (R ++ [row]) := by
  refine ⟨by rw [List.length_append, List.length_append, h.1]; rfl, fun i q r h1 h2 => ?_⟩
  by_cases e : i < qs.length
  · rw [List.getElem?_append_left e] at h1
    rw [List.getElem?_append_left (by rw [← h.1]; exact e)] at h2
    exact ((AL.Keep.refl H).put hw) _ _ (h.2 i q r h1 h2)
  · have hl := (List.getElem?_eq_some_iff.mp h1).1
    rw [List.length_append, List.length_singleton] at hl
    have e2 : i = qs.length := by omega
    subst e2
    rw [List.getElem?_append_right (Nat.le_refl _), Nat.sub_self] at h1
    rw [h.1, List.getElem?_append_right (Nat.le_refl _), Nat.sub_self] at h2
    cases h1
    cases h2
    exact put_same
/-- a machine, of one piece or of cells -/
def IsM (C : AH) (d : D) (E : List Bool) (R : List (List (Option Nat))) : Prop := d = machD E R ∨ Cm C d E R
theorem IsM.keep {C C' : AH} {d : D} {E : List Bool} {R : List (List (Option Nat))} (h : IsM C d E R) (hK : AL.Keep C C') : IsM C' d E R := h.imp id fun g => g.keep hK
section
variable {sg : Nat} {E : List Bool} {R : List (List (Option Nat))} {C : AH} {P : D → AH → Prop} {d : D}
theorem row_cell {qs : List Addr} {s : Nat} (hQ : Rws C qs R) (hs : s < R.length) (k : ∀ q, C q = some (.lst (R[s].map oD)) → P (.ce q) C) : aIx (.lst (qs.map D.ce)) (.int (s : Nat)) C P := by
  have hs2 : s < qs.length := by rw [hQ.1]; exact hs
  refine g_ixL (d := .ce qs[s]) (atI_nat' (by rw [List.getElem?_map, List.getElem?_eq_getElem hs2]; rfl)) (k _ ?_)
  exact hQ.2 s _ _ (List.getElem?_eq_getElem hs2) (List.getElem?_eq_getElem hs)
theorem row_ix {row : List (Option Nat)} {x : Nat} {o : Option Nat} (h : row[x]? = some o) (k : P (oD o) C) : aIx (.lst (row.map oD)) (.int (x : Nat)) C P :=
  g_ixL (atI_nat' (by rw [List.getElem?_map, h]; rfl)) k
end
end A_k36
namespace A_k36
open PySem L2 AL
theorem mapPd_of {f : D → Option PyData} : ∀ (ds : List D) (xs : List PyData), ds.length = xs.length → (∀ (i : Nat) d x, ds[i]? = some d → xs[i]? = some x → f d = some x) → mapPd f ds = some xs
  | [], [], _, _ => rfl
  | d :: ds, x :: xs, hl, h => by
    unfold mapPd
    rw [h 0 d x rfl rfl, mapPd_of ds xs (by simpa using hl) fun i d x h1 h2 => h (i + 1) d x h1 h2]
theorem mapPd_map {α : Type} {f : D → Option PyData} {g : α → D} {h : α → PyData} (l : List α) (e : ∀ x ∈ l, f (g x) = some (h x)) : mapPd f (l.map g) = some (l.map h) := by
  refine mapPd_of _ _ (by simp) fun i d x h1 h2 => ?_
  rw [List.getElem?_map] at h1 h2
  cases q : l[i]? with
  | none => rw [q] at h1; cases h1
  | some a =>
    rw [q] at h1 h2
    cases h1
    cases h2
    exact e a (List.mem_of_getElem? q)
def oP (o : Option Nat) : PyData := match o with | none => .none | some t => .int t
def pdM (E : List Bool) (R : List (List (Option Nat))) : PyData := .tuple [.list (E.map .bool), .list (R.map fun r => .list (r.map oP))]
theorem okD_mach (ends : List Bool) (goes : List (List (Option Nat))) : okD (machD ends goes) 3 = true := by
  show (okD (endsD ends) 2 && (okD (goesD goes) 2 && true)) = true
  rw [okD_goes goes 0, okD_ends ends 1]
  rfl
theorem pdL_map {α : Type} {g : α → D} {h : α → PyData} : ∀ (l : List α), (∀ x ∈ l, (g x).pd = some (h x)) → pdL (l.map g) = some (l.map h)
  | [], _ => rfl
  | a :: l, e => by
    show (match (g a).pd, pdL (l.map g) with | some x, some xs => some (x :: xs) | _, _ => none) = _
    rw [e a (List.mem_cons_self ..), pdL_map l fun x hx => e x (List.mem_cons_of_mem _ hx)]
    rfl
theorem pd_oD (o : Option Nat) : (oD o).pd = some (oP o) := by cases o <;> rfl
theorem pd_row (r : List (Option Nat)) : (D.lst (r.map oD)).pd = some (.list (r.map oP)) := by
  show (pdL (r.map oD)).map _ = _
  rw [pdL_map r fun o _ => pd_oD o]; rfl
theorem pd_mach (E : List Bool) (R : List (List (Option Nat))) : (machD E R).pd = some (pdM E R) := by
  show (match (endsD E).pd, pdL [goesD R] with | some x, some xs => some (x :: xs) | _, _ => none).map PyData.tuple = _
  have h1 : (endsD E).pd = some (.list (E.map .bool)) := by
    show (pdL (E.map D.bl)).map _ = _
    rw [pdL_map (h := PyData.bool) E fun o _ => rfl]; rfl
  have h2 : (goesD R).pd = some (.list (R.map fun r => .list (r.map oP))) := by
    show (pdL (R.map fun r => D.lst (r.map oD))).map _ = _
    rw [pdL_map R fun r _ => pd_row r]; rfl
  rw [h1]
  show (match some (PyData.list (E.map .bool)), (match (goesD R).pd, (some [] : Option (List PyData)) with | some x, some xs => some (x :: xs) | _, _ => none) with | some x, some xs => some (x :: xs) | _, _ => none).map PyData.tuple = _
  rw [h2]
  rfl
section
variable {sg : Nat} {E : List Bool} {R : List (List (Option Nat))} {C : AH} {P : D → AH → Prop} {d d' : D}
theorem pdD_row (C : AH) (r : List (Option Nat)) : mapPd (pdD C 0) (r.map oD) = some (r.map oP) := mapPd_map r fun o _ => by cases o <;> rfl
theorem pdD_ends (C : AH) (E : List Bool) : mapPd (pdD C 1) (E.map D.bl) = some (E.map .bool) := mapPd_map E fun o _ => rfl
theorem pdD_M (hI : IsM C d E R) : pdD C 3 d = some (pdM E R) := by
  rcases hI with rfl | ⟨pe, pg, qs, rfl, h1, h2, h3⟩
  · show (mapPd (pdD C 2) [endsD E, goesD R]).map PyData.tuple = _
    rw [mapPd_of [endsD E, goesD R] [.list (E.map .bool), .list (R.map fun r => .list (r.map oP))] rfl fun i d x g1 g2 => ?_]
    · rfl
    · match i with
      | 0 =>
        cases g1; cases g2
        show (mapPd (pdD C 1) (E.map D.bl)).map _ = _
        rw [pdD_ends]; rfl
      | 1 =>
        cases g1; cases g2
        show (mapPd (pdD C 1) (R.map fun r => D.lst (r.map oD))).map _ = _
        rw [mapPd_map (h := fun r => PyData.list (r.map oP)) R fun r _ => ?_]
        · rfl
        · show (mapPd (pdD C 0) (r.map oD)).map _ = _
          rw [pdD_row]; rfl
      | i + 2 => simp at g1
  · show (mapPd (pdD C 2) [.ce pe, .ce pg]).map PyData.tuple = _
    rw [mapPd_of [.ce pe, .ce pg] [.list (E.map .bool), .list (R.map fun r => .list (r.map oP))] rfl fun i d x g1 g2 => ?_]
    · rfl
    · match i with
      | 0 =>
        cases g1; cases g2
        show (match C pe with | some (.lst ds) => (mapPd (pdD C 1) ds).map PyData.list | _ => none) = _
        rw [h1]
        show (mapPd (pdD C 1) (E.map D.bl)).map _ = _
        rw [pdD_ends]; rfl
      | 1 =>
        cases g1; cases g2
        show (match C pg with | some (.lst ds) => (mapPd (pdD C 1) ds).map PyData.list | _ => none) = _
        rw [h2]
        show (mapPd (pdD C 1) (qs.map D.ce)).map _ = _
        rw [mapPd_of (qs.map D.ce) (R.map fun r => .list (r.map oP)) (by simp [h3.1]) fun i d x g1 g2 => ?_]
        · rfl
        · rw [List.getElem?_map] at g1 g2
          cases q1 : qs[i]? with
          | none => rw [q1] at g1; cases g1
          | some q =>
            cases q2 : R[i]? with
            | none => rw [q2] at g2; cases g2
            | some r =>
              rw [q1] at g1
              rw [q2] at g2
              cases g1; cases g2
              show (match C q with | some (.lst ds) => (mapPd (pdD C 0) ds).map PyData.list | _ => none) = _
              rw [h3.2 i q r q1 q2]
              show (mapPd (pdD C 0) (r.map oD)).map _ = _
              rw [pdD_row]; rfl
      | i + 2 => simp at g1
end
end A_k36
namespace A_k36
open PySem L2 AL
abbrev OP := Option Nat × Option Nat
theorem eqv_oP (a b : Option Nat) : PyData.eqv (oP a) (oP b) = decide (a = b) := by
  cases a <;> cases b <;> simp [oP, PyData.eqv]
  rename_i a b
  by_cases e : a = b
  · simp [e]
  · simp [e, Int.ofNat_inj]
def pD (p : OP) : D := .tup [oD p.1, oD p.2]
def pP (p : OP) : PyData := .tuple [oP p.1, oP p.2]
theorem eqv_pP (p q : OP) : PyData.eqv (pP p) (pP q) = decide (p = q) := by
  obtain ⟨a, b⟩ := p
  obtain ⟨c, d⟩ := q
  simp only [pP, PyData.eqv, PyData.eqvAll, eqv_oP, Bool.and_true, Prod.mk.injEq, Bool.decide_and]
theorem pd_pD (p : OP) : (pD p).pd = some (pP p) := by
  obtain ⟨a, b⟩ := p
  simp only [pD, D.pd, pdL, pd_oD]
  rfl
theorem pdL_pD : ∀ l : List OP, pdL (l.map pD) = some (l.map pP)
  | [] => rfl
  | p :: l => by
    rw [List.map_cons, List.map_cons]
    unfold pdL
    rw [pd_pD, pdL_pD l]
theorem okD_oD (o : Option Nat) (n : Nat) : okD (oD o) n = true := by cases o <;> simp [oD, okD]
theorem okD_pD (p : OP) (n : Nat) : okD (pD p) (n + 1) = true := okD_tup fun d hd => by
  simp only [List.mem_cons, List.not_mem_nil, or_false] at hd
  rcases hd with rfl | rfl
  · exact okD_oD _ _
  · exact okD_oD _ _
theorem shaped_pP (p : OP) : SeqAt.shaped (pP p) = true := by
  obtain ⟨x, h1, h2, _⟩ := okD_shaped (okD_pD p 1) (by omega)
  rw [pd_pD] at h1
  cases h1
  exact h2
theorem shaped_pL (l : List OP) : SeqAt.shaped (.list (l.map pP)) = true := by
  have hk : okD (.lst (l.map pD)) 3 = true := okD_lst fun d hd => by
    obtain ⟨p, _, rfl⟩ := List.mem_map.mp hd
    exact okD_pD p 1
  obtain ⟨x, h1, h2, _⟩ := okD_shaped hk (by omega)
  simp only [D.pd, pdL_pD, Option.map_some] at h1
  cases h1
  exact h2
theorem any_pP (p : OP) (l : List OP) : ((l.map pP).any fun z => PyData.eqv z (pP p)) = decide (p ∈ l) := by
  induction l with
  | nil => rfl
  | cons q l ih =>
    rw [List.map_cons, List.any_cons, ih, eqv_pP]
    by_cases e : q = p
    · simp [e]
    · have e' : ¬ p = q := fun z => e z.symm
      simp [e, e']
section
variable {C : AH} {P : D → AH → Prop}
theorem g_inP {p : OP} {l : List OP} (h : P (.bl (decide (p ∈ l))) C) : aInDp false (pD p) (.lst (l.map pD)) C P := by
  refine g_inDp 0 (u := pP p) (vs := l.map pP) (pd_pD p) (by show (D.lst _).pd = _; simp only [D.pd, pdL_pD, Option.map_some]) (shaped_pP p) (shaped_pL l) ?_
  rw [any_pP]; exact h
theorem g_ninP {p : OP} {l : List OP} (h : P (.bl (!decide (p ∈ l))) C) : aInDp true (pD p) (.lst (l.map pD)) C P := by
  refine g_ninDp 0 (u := pP p) (vs := l.map pP) (pd_pD p) (by show (D.lst _).pd = _; simp only [D.pd, pdL_pD, Option.map_some]) (shaped_pP p) (shaped_pL l) ?_
  rw [any_pP]; exact h
end
def okN : Option Nat → NestedKey
  | none => .none
  | some n => .num (n : Int)
theorem okN_inj {a b : Option Nat} (h : okN a = okN b) : a = b := by
  cases a with
  | none => cases b with | none => rfl | some t => cases h
  | some s =>
    cases b with
    | none => cases h
    | some t =>
      have h1 : NestedKey.num (s : Int) = .num (t : Int) := h
      injection h1 with h2
      rw [Int.ofNat.inj h2]
def pk (p : OP) : NestedKey := .tup [okN p.1, okN p.2]
theorem pk_inj {p q : OP} (h : pk p = pk q) : p = q := by
  unfold pk at h
  injection h with h1
  injection h1 with h2 h3
  injection h3 with h4 _
  exact Prod.ext (okN_inj h2) (okN_inj h4)
theorem keyT_pD (p : OP) : keyT (pD p) = some (pk p) := by
  obtain ⟨a, b⟩ := p
  cases a <;> cases b <;> simp [keyT, pD, isTup, keyN, keyNs, oD, pk, okN, NestedKey.depth, NestedKey.depthAll]
theorem valND_put {es : List (NestedKey × D)} {k k' : NestedKey} {d : D} : valND (putND es k d) k' = if k' = k then some d else valND es k' := by
  unfold putND
  split
  · rename_i h
    induction es with
    | nil => simp [valND] at h
    | cons e es ih =>
      by_cases e1 : e.1 = k
      · by_cases e2 : k' = k
        · subst e2
          simp [valND, e1]
        · have e3 : ¬ e.1 = k' := fun z => e2 (by rw [← z, e1])
          have e4 : ¬ k = k' := fun z => e2 z.symm
          rw [if_neg e2]
          by_cases hk : (valND es k).isSome = true
          · have := ih hk
            rw [if_neg e2] at this
            unfold valND at this ⊢
            simp only [List.map_cons, e1, if_true, List.find?_cons, e4, decide_false] at this ⊢
            rw [this]
            try simp [e3]
          · have hn : ∀ x ∈ es, ¬ x.1 = k := by
              intro x hx z
              apply hk
              unfold valND
              rw [Option.isSome_map, List.find?_isSome]
              exact ⟨x, hx, decide_eq_true z⟩
            have hm : (es.map fun kv => if kv.1 = k then (kv.1, d) else kv) = es := by
              conv => rhs; rw [← List.map_id es]
              refine List.map_congr_left fun x hx => ?_
              rw [if_neg (hn x hx)]; rfl
            unfold valND
            rw [List.map_cons, if_pos e1, hm, List.find?_cons, List.find?_cons]
            simp [e3]
      · have h' : (valND es k).isSome = true := by
          unfold valND at h ⊢
          rw [List.find?_cons] at h
          simpa [e1] using h
        have := ih h'
        unfold valND at this ⊢
        rw [List.map_cons, if_neg e1, List.find?_cons, List.find?_cons]
        by_cases e2 : e.1 = k'
        · have e5 : ¬ k' = k := fun z => e1 (by rw [e2, z])
          simp [e2, e5]
        · simp only [e2, decide_false]
          exact this
  · rename_i h
    have hn : valND es k = none := by simpa using h
    unfold valND at hn ⊢
    rw [List.find?_append]
    by_cases e2 : k' = k
    · subst e2
      have : es.find? (fun kv => decide (kv.1 = k')) = none := by simpa using hn
      rw [this]
      simp
    · rw [if_neg e2]
      have : ([(k, d)] : List (NestedKey × D)).find? (fun kv => decide (kv.1 = k')) = none := by
        simp [Ne.symm e2]
      rw [this, Option.or_none]
/-- each pair once, where it stands first -/
def addP (l : List OP) (p : OP) : List OP := if p ∈ l then l else l ++ [p]
def nub (ps : List OP) : List OP := ps.foldl addP []
theorem mem_addP {l : List OP} {p q : OP} : q ∈ addP l p ↔ q ∈ l ∨ q = p := by
  unfold addP
  split
  · constructor
    · exact .inl
    · rintro (h | rfl) <;> assumption
  · simp
theorem mem_nub' : ∀ (ps l : List OP) (q : OP), q ∈ ps.foldl addP l ↔ q ∈ l ∨ q ∈ ps
  | [], l, q => by simp
  | p :: ps, l, q => by
    rw [List.foldl_cons, mem_nub' ps, mem_addP, List.mem_cons, or_assoc]
theorem mem_nub {ps : List OP} {q : OP} : q ∈ nub ps ↔ q ∈ ps := by
  unfold nub
  rw [mem_nub']
  simp
def eP (p : OP) : D × D := (pD p, .bl true)
theorem keysW_eP (l : List OP) : keysW (l.map eP) = l.map fun p => (pk p, D.bl true) := by
  unfold keysW
  rw [List.map_map]
  refine List.map_congr_left fun p _ => ?_
  simp [Function.comp, eP, keyT_pD]
theorem val_eP (l : List OP) (p : OP) : (valND (keysW (l.map eP)) (pk p)).isSome = decide (p ∈ l) := by
  rw [keysW_eP]
  induction l with
  | nil => rfl
  | cons q l ih =>
    by_cases e : q = p
    · subst e; simp [valND]
    · have e1 : ¬ pk q = pk p := fun z => e (pk_inj z)
      have e2 : ¬ p = q := fun z => e z.symm
      simp only [valND, List.map_cons, List.find?_cons, e1, decide_false, List.mem_cons, e2, false_or] at ih ⊢
      exact ih
theorem putW_eP (l : List OP) (p : OP) : putW (l.map eP) (pD p) (.bl true) = (addP l p).map eP := by
  unfold putW addP
  rw [show (keyT (pD p)).getD NestedKey.none = pk p by rw [keyT_pD]; rfl, val_eP]
  by_cases h : p ∈ l
  · rw [if_pos h, if_pos (by simpa using h)]
    rw [List.map_map]
    refine List.map_congr_left fun q _ => ?_
    simp only [Function.comp, eP]
    exact ite_self _
  · rw [if_neg h, if_neg (by simpa using h), List.map_append]
    rfl
theorem merge_eP : ∀ (ps l : List OP), mergeW (l.map eP) (ps.map eP) = (ps.foldl addP l).map eP
  | [], l => rfl
  | p :: ps, l => by
    rw [List.map_cons, List.foldl_cons]
    show mergeW (putW (l.map eP) (pD p) (.bl true)) (ps.map eP) = _
    rw [putW_eP, merge_eP ps]
theorem pairsW_eP : ∀ ps : List OP, pairsW (ps.map fun p => D.tup [pD p, .bl true]) = some (ps.map eP)
  | [] => rfl
  | p :: ps => by
    rw [List.map_cons]
    show (if (keyT (pD p)).isSome = true then _ else _) = _
    rw [keyT_pD, pairsW_eP ps]
    rfl
end A_k36
namespace A_k36
open PySem L2 AL
theorem cell_ne {C : AH} {a q : Addr} {c : Cell} (h : C a = some c) (hq : C q = none) : a ≠ q := fun e => by rw [e, hq] at h; cases h
/-- a machine of cells, at these addresses -/
def MC (C : AH) (d : D) (E : List Bool) (R : List (List (Option Nat))) (pe pg : Addr) (qs : List Addr) : Prop := d = .tup [.ce pe, .ce pg] ∧ C pe = some (.lst (E.map .bl)) ∧ C pg = some (.lst (qs.map .ce)) ∧ Rws C qs R
theorem MC.isM {C : AH} {d : D} {E : List Bool} {R : List (List (Option Nat))} {pe pg : Addr} {qs : List Addr} (h : MC C d E R pe pg qs) : IsM C d E R := .inr ⟨pe, pg, qs, h⟩
theorem MC.same {C C' : AH} {d : D} {E : List Bool} {R : List (List (Option Nat))} {pe pg : Addr} {qs : List Addr} (h : MC C d E R pe pg qs) (hs : ∀ a ∈ pe :: pg :: qs, C' a = C a) : MC C' d E R pe pg qs := by
  obtain ⟨h1, h2, h3, h4, h5⟩ := h
  refine ⟨h1, by rw [hs _ (by simp)]; exact h2, by rw [hs _ (by simp)]; exact h3, h4, fun i q row g1 g2 => ?_⟩
  rw [hs q (by simp [List.mem_of_getElem? g1])]
  exact h5 i q row g1 g2
theorem MC.at' {C : AH} {d : D} {E : List Bool} {R : List (List (Option Nat))} {pe pg : Addr} {qs : List Addr} (h : MC C d E R pe pg qs) : ∀ a ∈ pe :: pg :: qs, ∃ c, C a = some c := by
  obtain ⟨h1, h2, h3, h4, h5⟩ := h
  intro a ha
  simp only [List.mem_cons] at ha
  rcases ha with rfl | rfl | ha
  · exact ⟨_, h2⟩
  · exact ⟨_, h3⟩
  · obtain ⟨i, hi, rfl⟩ := List.getElem_of_mem ha
    exact ⟨_, h5 i _ _ (List.getElem?_eq_getElem hi) (List.getElem?_eq_getElem (by rw [← h4]; exact hi))⟩
theorem MC.oth {p : Addr} {C C' : AH} {d : D} {E : List Bool} {R : List (List (Option Nat))} {pe pg : Addr} {qs : List Addr} (h : MC C d E R pe pg qs) (hp : p ∉ pe :: pg :: qs) (hO : Oth p C C') : MC C' d E R pe pg qs := by
  refine h.same fun a ha => ?_
  obtain ⟨c, e⟩ := h.at' a ha
  rw [e, hO a c (fun z => hp (z ▸ ha)) e]
theorem MC.keep {C C' : AH} {d : D} {E : List Bool} {R : List (List (Option Nat))} {pe pg : Addr} {qs : List Addr} (h : MC C d E R pe pg qs) (hK : AL.Keep C C') : MC C' d E R pe pg qs := by
  refine h.same fun a ha => ?_
  obtain ⟨c, e⟩ := h.at' a ha
  rw [e, hK a c e]
/-- whether a stand, or None, is an end -/
def endO (E : List Bool) : Option Nat → Bool
  | none => false
  | some u => E.getD u false
theorem step_at {R : List (List (Option Nat))} {s x : Nat} {row : List (Option Nat)} {o : Option Nat} (hr : R[s]? = some row) (hx : row[x]? = some o) : stepO R (some s) x = o := by
  simp only [stepO, hr, hx]
theorem g_cellMap {q : Addr} {us : List D} {e : AE'} {vs : List Nat} {fin : List D → AH → Prop} {C : AH} {s : ASt} {j : Nat} (f : D → D) (hC : C q = some (.lst us)) (hl : us.length ≤ sizeLine)
    (hs : ∀ d, d ∈ us → ∀ R : D → AH → Prop, R (f d) C → e ((wipeA s vs).set j (some d)) C R) (hd : fin (us.map f) C) : kIL (kLc (aGName j) aYes e vs fin s) (.ce q) C := by
  refine g_kILc hC ?_ (fun _ _ m h => kLc_mono m h)
  refine ⟨hl, fun i acc C' => acc = (us.take i).map f ∧ C' = C, ⟨rfl, rfl⟩, fun i acc C' _ hw => by rw [hw.2]; exact hC, fun i d acc C' hi hw => ?_, fun acc C' hw => ?_⟩
  · obtain ⟨rfl, rfl⟩ := hw
    refine hs d (List.mem_of_getElem? hi) _ ⟨?_, rfl⟩
    rw [List.take_add_one, hi, List.map_append]
    rfl
  · obtain ⟨rfl, rfl⟩ := hw
    rw [List.take_length]
    exact hd
def uncell (C : AH) (d : D) : D := match d with | .ce q => (match C q with | some (.lst us) => .lst us | _ => .non) | d => d
section
variable {sg : Nat} {E : List Bool} {R : List (List (Option Nat))} {C : AH} {P : D → AH → Prop} {d : D}
/-- machine[1][stand][number] -/
theorem ix3 (M : Mach sg E R) (hI : IsM C d E R) {u : Nat} (hu : u < E.length) {x : Nat} (hx : x < sg) (k : P (oD (stepO R (some u) x)) C) : aIx d (.int 1) C (fun a C1 => aIx a (.int (u : Nat)) C1 fun b C2 => aIx b (.int (x : Nat)) C2 P) := by
  have hle := M.len
  have hsR : u < R.length := by omega
  have hr : R[u]? = some R[u] := List.getElem?_eq_getElem hsR
  have hrl := M.row _ (List.getElem_mem hsR)
  rcases hI with rfl | ⟨pe, pg, qs, rfl, h1, h2, h3⟩
  · refine g_ixT1 ?_
    refine g_ixL (d := .lst (R[u].map oD)) (atI_nat' (by rw [List.getElem?_map, hr]; rfl)) ?_
    generalize R[u] = row at hr hrl
    have hxr : row[x]? = some (row[x]'(by omega)) := List.getElem?_eq_getElem (by omega)
    rw [step_at hr hxr] at k
    exact row_ix hxr k
  · refine g_ixT1 ?_
    refine g_ixC h2 ?_
    refine row_cell h3 hsR fun q hq => ?_
    generalize R[u] = row at hr hrl hq
    have hxr : row[x]? = some (row[x]'(by omega)) := List.getElem?_eq_getElem (by omega)
    rw [step_at hr hxr] at k
    refine g_ixC hq ?_
    exact row_ix hxr k
/-- machine[0][stand] -/
theorem ix2 (hI : IsM C d E R) {u : Nat} (hu : u < E.length) (k : P (.bl (endO E (some u))) C) : aIx d (.int 0) C (fun a C1 => aIx a (.int (u : Nat)) C1 P) := by
  have he : endO E (some u) = E[u] := by show E.getD u false = _; rw [List.getD_eq_getElem?_getD, List.getElem?_eq_getElem hu]; rfl
  rw [he] at k
  rcases hI with rfl | ⟨pe, pg, qs, rfl, h1, h2, h3⟩
  · refine g_ixT0 ?_
    exact get_end hu k
  · refine g_ixT0 ?_
    refine g_ixC h1 ?_
    exact get_end hu k
/-- len(machine[0]) -/
theorem len0 (hI : IsM C d E R) (k : P (.int (E.length : Nat)) C) : aIx d (.int 0) C (fun a C1 => aLen [a] C1 P) := by
  rcases hI with rfl | ⟨pe, pg, qs, rfl, h1, h2, h3⟩
  · refine g_ixT0 ?_
    refine g_lenL ?_
    rw [List.length_map]; exact k
  · refine g_ixT0 ?_
    refine g_lenC h1 ?_
    rw [List.length_map]; exact k
/-- len(machine[1][0]) -/
theorem len10 (M : Mach sg E R) (hI : IsM C d E R) (k : P (.int (sg : Nat)) C) : aIx d (.int 1) C (fun a C1 => aIx a (.int 0) C1 fun b C2 => aLen [b] C2 P) := by
  have hle := M.len
  have hpos := M.pos
  have hsR : 0 < R.length := by omega
  have hrl := M.row _ (List.getElem_mem hsR)
  rcases hI with rfl | ⟨pe, pg, qs, rfl, h1, h2, h3⟩
  · refine g_ixT1 ?_
    refine g_ixL (d := .lst (R[0].map oD)) (atI_nat' (i := 0) (by rw [List.getElem?_map, List.getElem?_eq_getElem hsR]; rfl)) ?_
    refine g_lenL ?_
    rw [List.length_map, hrl]; exact k
  · refine g_ixT1 ?_
    refine g_ixC h2 ?_
    refine row_cell (s := 0) h3 hsR fun q hq => ?_
    refine g_lenC hq ?_
    rw [List.length_map, hrl]; exact k
theorem led_ok (M : Mach sg E R) (hI : IsM C d E R) {o : Option Nat} (ho : inn E.length o) {x : Nat} (hx : x < sg) (k : P (oD (stepO R o x)) C) : s_led [d, oD o, .int (x : Nat)] C P := by
  unfold s_led a_led
  cases o with
  | none =>
    walk_at "go"
    refine g_ifT (fun K hK => ?_) ?_
    · walk_at "go"; exact hK
    walk_at "go"
    exact k
  | some u =>
    walk_at "go"
    refine g_ifF (fun K hK => ?_) ?_
    · walk_at "go"; exact hK
    walk_at "go"
    exact ix3 M hI (ho u rfl) hx k
theorem law_led_ok (M : Mach sg E R) (hI : IsM C d E R) {o : Option Nat} (ho : inn E.length o) {x : Nat} (hx : x < sg) (k : P (oD (stepO R o x)) C) : s_law_led [d, oD o, .int (x : Nat)] C P := by
  unfold s_law_led a_law_led
  cases o with
  | none =>
    walk_at "go"
    refine g_ifT (fun K hK => ?_) ?_
    · walk_at "go"; exact hK
    walk_at "go"
    exact k
  | some u =>
    walk_at "go"
    refine g_ifF (fun K hK => ?_) ?_
    · walk_at "go"; exact hK
    walk_at "go"
    exact ix3 M hI (ho u rfl) hx k
theorem is_end_ok (hI : IsM C d E R) {o : Option Nat} (ho : inn E.length o) (k : P (.bl (endO E o)) C) : s_is_end [d, oD o] C P := by
  unfold s_is_end a_is_end
  walk_at "go"
  cases o with
  | none =>
    exact g_kAnd (fun h => by cases h) (fun _ => k)
  | some u =>
    refine g_kAnd (fun _ => ?_) (fun h => by cases h)
    walk_at "go"
    exact ix2 hI (ho u rfl) k
theorem law_is_end_ok (hI : IsM C d E R) {o : Option Nat} (ho : inn E.length o) (k : P (.bl (endO E o)) C) : s_law_is_end [d, oD o] C P := by
  unfold s_law_is_end a_law_is_end
  walk_at "go"
  cases o with
  | none =>
    exact g_kAnd (fun h => by cases h) (fun _ => k)
  | some u =>
    refine g_kAnd (fun _ => ?_) (fun h => by cases h)
    walk_at "go"
    exact ix2 hI (ho u rfl) k
theorem goal_ok {b : Bool} {u n : Nat} (hu : u < n) (k : ∀ o : Option Nat, inn n o → P (oD o) C) : s_law_goal [.bl b, .int (u : Nat)] C P := by
  unfold s_law_goal a_law_goal
  walk_at "go"
  refine g_ifS ?_
  walk_at "go"
  refine g_ite (fun h => ?_) (fun h => ?_)
  · walk_at "go"
    exact k none (fun t e => by cases e)
  · walk_at "go"
    exact k (some u) (fun t e => by cases e; exact hu)
theorem twin_ok {o : Option Nat} {b n : Nat} (ho : inn n o) (hb : b < 2) (k : ∀ o2 : Option Nat, inn (2 * n) o2 → P (oD o2) C) : s_law_twin [oD o, .int (b : Nat)] C P := by
  unfold s_law_twin a_law_twin
  cases o with
  | none =>
    walk_at "go"
    refine g_ifT (fun K hK => ?_) ?_
    · walk_at "go"; exact hK
    walk_at "go"
    exact k none (fun t e => by cases e)
  | some u =>
    walk_at "go"
    refine g_ifF (fun K hK => ?_) ?_
    · walk_at "go"; exact hK
    have hu := ho u rfl
    walk_at "go"
    rw [show oD (some u) = D.int (u : Int) from rfl]
    walk_at "go"
    rw [show (2 : Int) * (u : Int) + (b : Int) = ((2 * u + b : Nat) : Int) by omega]
    exact k (some (2 * u + b)) (fun t e => by cases e; omega)
theorem copied_ok (M : Mach sg E R) {pe pg : Addr} {qs : List Addr} (hI : MC C d E R pe pg qs) (k : P (machD E R) C) : s_law_copied [d] C P := by
  obtain ⟨rfl, h1, h2, h3⟩ := hI
  have hn := M.most
  have hle := M.len
  unfold s_law_copied a_law_copied
  walk_at "go"
  refine g_listC h1 ?_
  walk_at "go"
  refine g_cellMap (uncell C) h2 (by rw [List.length_map, h3.1]; simp only [sizeLine]; omega) (fun d hd Q hQ => ?_) ?_
  · obtain ⟨q, hq, rfl⟩ := List.mem_map.mp hd
    obtain ⟨i, hi, rfl⟩ := List.getElem_of_mem hq
    have hiR : i < R.length := by rw [← h3.1]; exact hi
    have hCq := h3.2 i _ _ (List.getElem?_eq_getElem hi) (List.getElem?_eq_getElem hiR)
    walk_at "go"
    refine g_listC hCq ?_
    have e : uncell C (.ce qs[i]) = .lst (R[i].map oD) := by
      show (match C qs[i] with | some (.lst us) => D.lst us | _ => .non) = _
      rw [hCq]
    rw [e] at hQ
    exact hQ
  have e : (qs.map D.ce).map (uncell C) = R.map fun r => D.lst (r.map oD) := by
    refine List.ext_getElem (by simp [h3.1]) fun i hi hi' => ?_
    rw [List.length_map] at hi hi'
    rw [List.length_map] at hi
    have hCq := h3.2 i _ _ (List.getElem?_eq_getElem hi) (List.getElem?_eq_getElem hi')
    rw [List.getElem_map, List.getElem_map, List.getElem_map]
    show (match C qs[i] with | some (.lst us) => D.lst us | _ => .non) = _
    rw [hCq]
  rw [e]
  walk_at "go"
  exact k
end
end A_k36
namespace A_k36
open PySem L2 AL
theorem Rws.oth {C C' : AH} {qs : List Addr} {R : List (List (Option Nat))} (h : Rws C qs R) (hs : ∀ q ∈ qs, C' q = C q) : Rws C' qs R := ⟨h.1, fun i q row h1 h2 => by rw [hs q (List.mem_of_getElem? h1)]; exact h.2 i q row h1 h2⟩
theorem Rws.nil (C : AH) : Rws C [] [] := ⟨rfl, fun i q row h1 _ => by simp at h1⟩
section
variable {C : AH} {P : D → AH → Prop}
theorem machine_ok {p : Addr} {n most sg : Nat} (hm : 0 < most) (hm2 : most ≤ 9) (hs : sg ≤ 12) (hp : Pen (n + 400) C p) (k : ∀ ends goes C' d pe pg qs, Mach sg ends goes → ends.length ≤ most → Pen n C' p → Oth p C C' → MC C' d ends goes pe pg qs → (pe :: pg :: qs).Nodup → (∀ a ∈ pe :: pg :: qs, C a = none) → P d C') : s_law_machine [.ce p, .int (sg : Nat), .int (most : Nat)] C P := by
  have hCp : ∃ c, C p = some c := by obtain ⟨c, h, _⟩ := hp; exact ⟨c, h⟩
  unfold s_law_machine a_law_machine
  walk_at "go"
  refine draw_ok (n := n + 399) hp hm (by omega) fun c d hc hd => ?_
  have hP := pen_put (C := C) (p := p) hc
  have hO := (Oth.refl p C).pen (c := c)
  generalize put C p c = C1 at hP hO ⊢
  walk_at "go"
  rw [show (1 : Int) + (d : Int) = ((d + 1 : Nat) : Int) by omega]
  generalize hmany : d + 1 = many
  have hm8 : 1 ≤ many ∧ many ≤ most := by omega
  refine draw_ok (n := n + 398) (m := 3) hP (by omega) (by omega) fun c e hc he => ?_
  have hP := pen_put (C := C1) (p := p) hc
  have hO := hO.pen (c := c)
  generalize put C1 p c = C2 at hP hO ⊢
  have hrare : ∀ (R : D → AH → Prop), (∀ rare : Nat, 0 < rare → rare ≤ 6 → R (.int (rare : Nat)) C2) → aIx (.lst [.int 2, .int 3, .int 6]) (.int (e : Nat)) C2 R := fun R hR => by
    have : e = 0 ∨ e = 1 ∨ e = 2 := by omega
    rcases this with rfl | rfl | rfl
    · exact g_ixL rfl (hR 2 (by decide) (by decide))
    · exact g_ixL rfl (hR 3 (by decide) (by decide))
    · exact g_ixL rfl (hR 6 (by decide) (by decide))
  walk_at "go"
  refine hrare _ fun rare hr1 hr2 => ?_
  walk_at "go"
  refine g_kLc (fun i acc C' => ∃ ends : List Bool, ends.length = i ∧ acc = ends.map D.bl ∧ Pen (n + (398 - i)) C' p ∧ Oth p C C') (by rw [rangeD_len]; simp only [sizeLine]; omega) ⟨[], rfl, rfl, hP, hO⟩ (fun i y acc C' hi hw => ?_) (fun acc C' hw => ?_)
  · clear hP hO
    obtain ⟨ends, hl, rfl, hP, hO⟩ := hw
    have hi2 : i < many := by
      have := (List.getElem?_eq_some_iff.mp hi).1
      rw [rangeD_len] at this
      exact this
    walk_at "go"
    refine draw_ok (n := n + (398 - (i + 1))) hP.less hr1 (by omega) fun c f hc hf => ?_
    have hP := pen_put (C := C') (p := p) hc
    have hO := hO.pen (c := c)
    generalize put C' p c = C3 at hP hO ⊢
    walk_at "go"
    exact ⟨ends ++ [decide ((f : Int) = 0)], by simp [hl], by simp, hP, hO⟩
  clear hP hO
  obtain ⟨ends, hel, rfl, hP, hO⟩ := hw
  rw [rangeD_len] at hel hP
  rw [show ((many : Nat) : Int).toNat = many from rfl] at hel hP
  intro pe hpe
  have hppe : p ≠ pe := by obtain ⟨_, h, _⟩ := hP; exact ne_cell h hpe
  have hpe0 : C pe = none := hO.none hppe.symm hpe
  have hP := hP.other (c := .lst (ends.map .bl)) hppe
  have hO := hO.put (c := .lst (ends.map .bl)) hpe0
  have hCe : put C' pe (.lst (ends.map .bl)) pe = some (.lst (ends.map D.bl)) := put_same
  generalize put C' pe (.lst (ends.map .bl)) = C3 at hP hO hCe ⊢
  walk_at "go"
  have hP : Pen (n + 388) C3 p := hP.less
  refine draw_ok (n := n + 387) (m := 3) hP (by omega) (by omega) fun c e2 hc he2 => ?_
  have hP := pen_put (C := C3) (p := p) hc
  have hO := hO.pen (c := c)
  have hCe := put_other (d := c) hppe.symm hCe
  generalize put C3 p c = C3 at hP hO hCe ⊢
  have hlost : ∀ (R : D → AH → Prop), (∀ lost : Int, R (.int lost) C3) → aIx (.lst [.int 1, .int 3, .int 8]) (.int (e2 : Nat)) C3 R := fun R hR => by
    have : e2 = 0 ∨ e2 = 1 ∨ e2 = 2 := by omega
    rcases this with rfl | rfl | rfl
    · exact g_ixL rfl (hR 1)
    · exact g_ixL rfl (hR 3)
    · exact g_ixL rfl (hR 8)
  walk_at "go"
  refine hlost _ fun lost => ?_
  walk_at "go"
  intro g hg
  have hpg : p ≠ g := by obtain ⟨_, h, _⟩ := hP; exact ne_cell h hg
  have hpeg : pe ≠ g := cell_ne hCe hg
  have hg0 : C g = none := hO.none hpg.symm hg
  have hP := hP.other (c := .lst []) hpg
  have hO := hO.put (c := .lst []) hg0
  have hCe := put_other (d := .lst []) hpeg hCe
  have hCg : put C3 g (.lst []) g = some (.lst (([] : List Addr).map D.ce)) := put_same
  generalize put C3 g (.lst []) = C4 at hP hO hCg hCe ⊢
  walk_at "go"
  refine g_kForR0 (fun i st C' => ∃ (rows : List (List (Option Nat))) (qs : List Addr) (x5 x9 : Option D), rows.length = i ∧ (∀ r ∈ rows, r.length = sg ∧ ∀ o ∈ r, inn many o) ∧ C' pe = some (.lst (ends.map D.bl)) ∧ C' g = some (.lst (qs.map .ce)) ∧ Rws C' qs rows ∧ (pe :: g :: qs).Nodup ∧ (∀ a ∈ qs, C a = none) ∧ Pen (n + 40 * (9 - i)) C' p ∧ Oth p C C' ∧ st = [some (.ce p), some (.int (sg : Nat)), some (.int (most : Nat)), some (.int (many : Nat)), some (.int (rare : Nat)), x5, some (.ce pe), some (.int lost), some (.ce g), x9]) ⟨[], [], none, none, rfl, by simp, hCe, hCg, Rws.nil _, by simp [hpeg], by simp, hP.less, hO, rfl⟩ (fun i st C' hi hw => ?_) (fun st C' hw => ?_)
  · clear hP hO hCg hCe
    obtain ⟨rows, qs, x5, x9, hl, hr, hCe, hCg, hQ, hnd, hfr, hP, hO, rfl⟩ := hw
    have hi2 : i < many := hi
    walk_at "go"
    have hqp : p ∉ qs := fun z => by obtain ⟨c, h⟩ := hCp; rw [hfr p z] at h; cases h
    refine g_kLc (fun j acc C5 => ∃ r : List (Option Nat), r.length = j ∧ acc = r.map oD ∧ (∀ o ∈ r, inn many o) ∧ C5 pe = some (.lst (ends.map D.bl)) ∧ C5 g = some (.lst (qs.map .ce)) ∧ Rws C5 qs rows ∧ Pen (n + 40 * (9 - (i + 1)) + 2 * (12 - j)) C5 p ∧ Oth p C C5) (by rw [rangeD_len]; simp only [sizeLine]; omega) ⟨[], rfl, rfl, by simp, hCe, hCg, hQ, hP.less, hO⟩ (fun j y acc C5 hj hw => ?_) (fun acc C5 hw => ?_)
    · clear hP hO hCg hCe hQ
      obtain ⟨r, hrl, rfl, hro, hCe, hCg, hQ, hP, hO⟩ := hw
      have hj2 : j < sg := by
        have := (List.getElem?_eq_some_iff.mp hj).1
        rw [rangeD_len] at this
        exact this
      walk_at "go"
      refine draw_ok (n := n + 40 * (9 - (i + 1)) + 2 * (12 - (j + 1)) + 1) (m := 8) hP.less (by omega) (by omega) fun c a hc ha => ?_
      have hP := pen_put (C := C5) (p := p) hc
      have hO := hO.pen (c := c)
      have hCg := put_other (d := c) hpg.symm hCg
      have hCe := put_other (d := c) hppe.symm hCe
      have hQ : Rws (put C5 p c) qs rows := Rws.oth hQ fun q hq => put_ne fun z => hqp (z ▸ hq)
      generalize put C5 p c = C6 at hP hO hCg hCe hQ ⊢
      walk_at "go"
      refine draw_ok (n := n + 40 * (9 - (i + 1)) + 2 * (12 - (j + 1))) (m := many) hP.less (by omega) (by omega) fun c b hc hb => ?_
      have hP := pen_put (C := C6) (p := p) hc
      have hO := hO.pen (c := c)
      have hCg := put_other (d := c) hpg.symm hCg
      have hCe := put_other (d := c) hppe.symm hCe
      have hQ : Rws (put C6 p c) qs rows := Rws.oth hQ fun q hq => put_ne fun z => hqp (z ▸ hq)
      generalize put C6 p c = C7 at hP hO hCg hCe hQ ⊢
      walk_at "go"
      refine goal_ok hb fun o ho => ?_
      refine ⟨r ++ [o], by simp [hrl], by simp, fun o2 h2 => ?_, hCe, hCg, hQ, hP, hO⟩
      rcases List.mem_append.mp h2 with q | q
      · exact hro o2 q
      · rw [List.mem_singleton.mp q]; exact ho
    · clear hP hO hCg hCe hQ
      obtain ⟨r, hrl, rfl, hro, hCe, hCg, hQ, hP, hO⟩ := hw
      rw [rangeD_len] at hrl
      intro w hw
      have hpw : p ≠ w := by obtain ⟨_, h, _⟩ := hP; exact ne_cell h hw
      have hpew : pe ≠ w := cell_ne hCe hw
      have hgw : g ≠ w := cell_ne hCg hw
      have hw0 : C w = none := hO.none hpw.symm hw
      have hqw : w ∉ qs := fun z => by
        obtain ⟨i, hi, rfl⟩ := List.getElem_of_mem z
        have := hQ.2 i _ _ (List.getElem?_eq_getElem hi) (List.getElem?_eq_getElem (by rw [← hQ.1]; exact hi))
        rw [hw] at this; cases this
      have hP := hP.other (c := .lst (r.map oD)) hpw
      have hO := hO.put (c := .lst (r.map oD)) hw0
      have hCe := put_other (d := .lst (r.map oD)) hpew hCe
      have hCg := put_other (d := .lst (r.map oD)) hgw hCg
      have hQ := Rws.snoc (row := r) hQ hw
      generalize put C5 w (.lst (r.map oD)) = C6 at hP hO hCg hCe hQ ⊢
      walk_at "go"
      have hql : qs.length = rows.length := by have := hQ.1; simp only [List.length_append, List.length_singleton] at this; omega
      refine g_append hCg (by rw [List.length_map, hql]; simp only [sizeLine]; omega) ?_
      walk_at "go"
      have hqg : ∀ q ∈ qs ++ [w], put C6 g (.lst (qs.map D.ce ++ [.ce w])) q = C6 q := fun q hq => by
        refine put_ne fun z => ?_
        subst z
        rcases List.mem_append.mp hq with h | h
        · exact (List.nodup_cons.mp (List.nodup_cons.mp hnd).2).1 h
        · exact hgw (List.mem_singleton.mp h)
      refine ⟨rows ++ [r], qs ++ [w], _, _, by simp [hl], fun r2 h2 => ?_, put_other hpeg hCe, by rw [put_same]; simp, Rws.oth hQ hqg, ?_, fun a ha => ?_, (hP.less).other hpg, hO.put hg0, rfl⟩
      · rcases List.mem_append.mp h2 with q | q
        · exact hr r2 q
        · rw [List.mem_singleton.mp q]; exact ⟨hrl, hro⟩
      · rw [← List.cons_append, ← List.cons_append]
        refine List.nodup_append.mpr ⟨hnd, by simp, fun a ha b hb e => ?_⟩
        rw [List.mem_singleton.mp hb] at e
        subst e
        simp only [List.mem_cons] at ha
        rcases ha with h | h | h
        · exact hpew h.symm
        · exact hgw h.symm
        · exact hqw h
      · rcases List.mem_append.mp ha with h | h
        · exact hfr a h
        · rw [List.mem_singleton.mp h]; exact hw0
  · clear hP hO hCg hCe
    obtain ⟨rows, qs, x5, x9, hl, hr, hCe, hCg, hQ, hnd, hfr, hP, hO, rfl⟩ := hw
    have hl2 : rows.length = many := hl
    walk_at "go"
    refine k ends rows _ _ pe g qs ⟨by rw [hel, hl2], by omega, by omega, fun r h => (hr r h).1, fun r h t ht => by rw [hel]; exact (hr r h).2 _ ht t rfl⟩ (by omega) hP.less hO ⟨rfl, hCe, hCg, hQ⟩ hnd fun a ha => ?_
    simp only [List.mem_cons] at ha
    rcases ha with rfl | rfl | ha
    · exact hpe0
    · exact hg0
    · exact hfr a ha
end
end A_k36
namespace A_k36
open PySem L2 AL
theorem asLr_ce {C : AH} {p : Addr} {us : List D} (h : C p = some (.lst us)) : asLr C (.ce p) = some us := by simp [asLr, asL, h]
theorem g_kIEc {C : AH} {PI : List D → (AH → Prop) → AH → Prop} {p : Addr} {us : List D} (h0 : C p = some (.lst us)) (h : PI (enumD us) (fun C' => asLr C' (.ce p) = some us) C) : kIE PI [.ce p] C := by
  show (match asLr C (.ce p) with | some ds => PI (enumD ds) (fun C' => asLr C' (.ce p) = some ds) C | none => False)
  rw [asLr_ce h0]
  exact h
theorem g_kILc' {C : AH} {PI : List D → (AH → Prop) → AH → Prop} {p : Addr} {us : List D} (h0 : C p = some (.lst us)) (h : PI us (fun C' => asLr C' (.ce p) = some us) C) : kIL PI (.ce p) C := by
  show (match asLr C (.ce p) with | some ds => PI ds (fun C' => asLr C' (.ce p) = some ds) C | none => False)
  rw [asLr_ce h0]
  exact h
theorem g_kLcH {C : AH} {s : ASt} {g : AG'} {e : AE'} {t : AT'} {vs : List Nat} {fin : List D → AH → Prop} {items : List D} {hold : AH → Prop} (W : Nat → List D → AH → Prop) (hl : items.length ≤ sizeLine) (h0 : W 0 [] C) (hh : ∀ i acc C', i ≤ items.length → W i acc C' → hold C')
    (hs : ∀ i d acc C', items[i]? = some d → W i acc C' → g d (wipeA s vs) C' fun s2 C2 => t s2 C2 fun b C3 => if b = true then e s2 C3 fun y C4 => W (i + 1) (acc ++ [y]) C4 else W (i + 1) acc C3) (hd : ∀ acc C', W items.length acc C' → fin acc C') : kLc g t e vs fin s items hold C :=
  ⟨hl, W, h0, hh, hs, hd⟩
/-- the double as far as it is made -/
def DI (C : AH) (p : Addr) (N sg : Nat) (a g : Addr) (cnt bud : Nat) (C' : AH) : Prop := ∃ (E2 : List Bool) (R2 : List (List (Option Nat))) (qs2 : List Addr), E2.length = cnt ∧ R2.length = cnt ∧ (∀ r ∈ R2, r.length = sg ∧ ∀ o ∈ r, inn (2 * N) o) ∧ C' a = some (.lst (E2.map .bl)) ∧ C' g = some (.lst (qs2.map .ce)) ∧ Rws C' qs2 R2 ∧ (a :: g :: qs2).Nodup ∧ (∀ x ∈ a :: g :: qs2, C x = none) ∧ Pen bud C' p ∧ Oth p C C'
theorem DI.less {C : AH} {p : Addr} {N sg : Nat} {a g : Addr} {cnt bud bud2 : Nat} {C' : AH} (h : DI C p N sg a g cnt bud C') (hb : bud2 ≤ bud) : DI C p N sg a g cnt bud2 C' := by
  obtain ⟨E2, R2, qs2, h1, h2, h3, h4, h5, h6, h7, h8, h9, h10⟩ := h
  exact ⟨E2, R2, qs2, h1, h2, h3, h4, h5, h6, h7, h8, h9.less hb, h10⟩
section
variable {C : AH} {P : D → AH → Prop}
theorem doubled_ok {p : Addr} {n sg : Nat} {E : List Bool} {R : List (List (Option Nat))} {d : D} {pe pg : Addr} {qs : List Addr} (M : Mach sg E R) (hE : E.length ≤ 9) (hs1 : 1 ≤ sg) (hs : sg ≤ 12) (hp : Pen (n + 400) C p) (hM : MC C d E R pe pg qs) (hpn : p ∉ pe :: pg :: qs)
    (k : ∀ E2 R2 C' d2 a g qs2, Mach sg E2 R2 → E2.length = 2 * E.length → Pen n C' p → Oth p C C' → MC C' d2 E2 R2 a g qs2 → (a :: g :: qs2).Nodup → (∀ x ∈ a :: g :: qs2, C x = none) → P d2 C') : s_law_doubled [.ce p, d, .int 0] C P := by
  have hCp : ∃ c, C p = some c := by obtain ⟨c, h, _⟩ := hp; exact ⟨c, h⟩
  have hle := M.len
  have hpos := M.pos
  unfold s_law_doubled a_law_doubled
  walk_at "go"
  intro a ha
  have hpa : p ≠ a := by obtain ⟨_, h, _⟩ := hp; exact ne_cell h ha
  have hP := hp.other (c := .lst []) hpa
  have hO := (Oth.refl p C).put (c := .lst []) ha
  have hCa : put C a (.lst []) a = some (.lst (([] : List Bool).map D.bl)) := put_same
  generalize put C a (.lst []) = C1 at hP hO hCa ⊢
  walk_at "go"
  intro g hg
  have hpg2 : p ≠ g := by obtain ⟨_, h, _⟩ := hP; exact ne_cell h hg
  have hag : a ≠ g := cell_ne hCa hg
  have hg0 : C g = none := hO.none hpg2.symm hg
  have hP := hP.other (c := .lst []) hpg2
  have hO := hO.put (c := .lst []) hg0
  have hCa := put_other (d := .lst []) hag hCa
  have hCg : put C1 g (.lst []) g = some (.lst (([] : List Addr).map D.ce)) := put_same
  generalize put C1 g (.lst []) = C2 at hP hO hCa hCg ⊢
  have hD0 : DI C p E.length sg a g 0 (n + 400) C2 := ⟨[], [], [], rfl, rfl, by simp, hCa, hCg, Rws.nil _, by simp [hag], by simp [ha, hg0], hP, hO⟩
  have hM2 := hM.oth hpn hO
  obtain ⟨rfl, _, hpg1, hQ1⟩ := id hM2
  walk_at "go"
  refine g_kIEc hpg1 ?_
  have hql : qs.length = R.length := hQ1.1
  refine g_kForH (fun i st C' => ∃ x5 x6 x7 x8 x9 x10 : Option D, DI C p E.length sg a g (2 * i) (n + 30 + 26 * (9 - i)) C' ∧ st = [some (.ce p), some (.tup [.ce pe, .ce pg]), some (.int 0), some (.ce a), some (.ce g), x5, x6, x7, x8, x9, x10]) ⟨_, _, _, _, _, _, hD0.less (by omega), rfl⟩ (fun i st C' hi hw => ?_) (fun i y st C' hi hw => ?_) (fun st C' hw => ?_)
  · obtain ⟨x5, x6, x7, x8, x9, x10, ⟨E2, R2, qs2, h1, h2, h3, h4, h5, h6, h7, h8, h9, h10⟩, rfl⟩ := hw
    exact asLr_ce (hM.oth hpn h10).2.2.1
  · obtain ⟨x5, x6, x7, x8, x9, x10, hD, rfl⟩ := hw
    obtain ⟨q, hq, rfl⟩ := enumD_inv hi
    rw [List.getElem?_map] at hq
    obtain ⟨q', hq', rfl⟩ := Option.map_eq_some_iff.mp hq
    have hiq : i < qs.length := (List.getElem?_eq_some_iff.mp hq').1
    have hiR : i < R.length := by omega
    have hrow := List.getElem?_eq_getElem hiR
    have hrl : R[i].length = sg := M.row _ (List.getElem_mem hiR)
    have hgo : ∀ t, some t ∈ R[i] → t < E.length := M.go _ (List.getElem_mem hiR)
    generalize R[i] = row at hrow hrl hgo
    have hqq : q' ∈ qs := List.mem_of_getElem? hq'
    walk_at "go"
    refine g_kForR0 (fun t st C' => ∃ x7 x10 : Option D, DI C p E.length sg a g (2 * i + t) (n + 30 + 26 * (9 - (i + 1)) + 13 * (2 - t)) C' ∧ st = [some (.ce p), some (.tup [.ce pe, .ce pg]), some (.int 0), some (.ce a), some (.ce g), some (.int (i : Int)), some (.ce q'), x7, x8, x9, x10]) ⟨_, _, hD.less (by omega), rfl⟩ (fun t st C' ht hw => ?_) (fun st C' hw => ?_)
    · clear hD
      obtain ⟨x7, x10, ⟨E2, R2, qs2, h1, h2, h3, h4, h5, h6, h7, h8, h9, h10⟩, rfl⟩ := hw
      have ht2 : t < 2 := ht
      have hMx := hM.oth hpn h10
      walk_at "go"
      refine g_ixC hMx.2.1 ?_
      have hiE : i < E.length := by omega
      refine get_end hiE ?_
      rw [show E[i] = endO E (some i) by show _ = E.getD i false; rw [List.getD_eq_getElem?_getD, List.getElem?_eq_getElem hiE]; rfl]
      walk_at "go"
      refine g_append h4 (by rw [List.length_map, h1]; simp only [sizeLine]; omega) ?_
      walk_at "go"
      have hpqs : p ∉ a :: g :: qs2 := fun z => by obtain ⟨c, h⟩ := hCp; rw [h8 p z] at h; cases h
      have haO : ∀ x ∈ pe :: pg :: qs, x ≠ a := fun x hx z => by
        obtain ⟨c, e⟩ := hM.at' x hx
        rw [z, ha] at e; cases e
      have hgO : ∀ x ∈ pe :: pg :: qs, x ≠ g := fun x hx z => by
        obtain ⟨c, e⟩ := hM.at' x hx
        rw [z, hg0] at e; cases e
      have ha2 : ∀ x ∈ qs2, x ≠ a := fun x hx z => by
        subst z
        exact (List.nodup_cons.mp h7).1 (by simp [hx])
      have hg2 : ∀ x ∈ qs2, x ≠ g := fun x hx z => by
        subst z
        exact (List.nodup_cons.mp (List.nodup_cons.mp h7).2).1 hx
      have g4 : (put C' a (.lst (E2.map .bl ++ [D.bl (endO E (some i))]))) a = some (.lst ((E2 ++ [endO E (some i)]).map .bl)) := by rw [put_same]; simp
      have g5 := put_other (d := .lst (E2.map .bl ++ [D.bl (endO E (some i))])) hag.symm h5
      have g6 : Rws (put C' a (.lst (E2.map .bl ++ [D.bl (endO E (some i))]))) qs2 R2 := Rws.oth h6 fun x hx => put_ne (ha2 x hx)
      have g9 := h9.other (c := .lst (E2.map .bl ++ [D.bl (endO E (some i))])) hpa
      have g10 := h10.put (c := .lst (E2.map .bl ++ [D.bl (endO E (some i))])) ha
      clear h4 h5 h6 h9 h10 hMx
      generalize put C' a (.lst (E2.map .bl ++ [D.bl (endO E (some i))])) = C5 at g4 g5 g6 g9 g10 ⊢
      have hMx := hM.oth hpn g10
      have hCq : C5 q' = some (.lst (row.map oD)) := hMx.2.2.2.2 i q' row hq' hrow
      refine g_kILc' hCq ?_
      refine g_kLcH (fun j acc C6 => ∃ r : List (Option Nat), r.length = j ∧ acc = r.map oD ∧ (∀ o ∈ r, inn (2 * E.length) o) ∧ C6 a = some (.lst ((E2 ++ [endO E (some i)]).map .bl)) ∧ C6 g = some (.lst (qs2.map .ce)) ∧ Rws C6 qs2 R2 ∧ Pen (n + 30 + 26 * (9 - (i + 1)) + 13 * (2 - (t + 1)) + (12 - j)) C6 p ∧ Oth p C C6) (by rw [List.length_map]; simp only [sizeLine]; omega) ⟨[], rfl, rfl, by simp, g4, g5, g6, g9.less, g10⟩ (fun j acc C6 hj hw => ?_) (fun j y acc C6 hj hw => ?_) (fun acc C6 hw => ?_)
      · obtain ⟨r, _, _, _, _, _, _, _, hO6⟩ := hw
        exact asLr_ce ((hM.oth hpn hO6).2.2.2.2 i q' row hq' hrow)
      · clear g4 g5 g6 g9 g10 hMx hCq
        obtain ⟨r, hrl2, rfl, hro, g4, g5, g6, g9, g10⟩ := hw
        rw [List.getElem?_map] at hj
        obtain ⟨o, ho, rfl⟩ := Option.map_eq_some_iff.mp hj
        have hj2 : j < row.length := (List.getElem?_eq_some_iff.mp ho).1
        have hino : inn E.length o := fun t e => hgo t (by rw [← e]; exact List.mem_of_getElem? ho)
        walk_at "go"
        refine draw_ok (n := n + 30 + 26 * (9 - (i + 1)) + 13 * (2 - (t + 1)) + (12 - (j + 1))) (m := 2) g9.less (by omega) (by omega) fun c b hc hb => ?_
        walk_at "go"
        refine twin_ok hino hb fun o2 ho2 => ?_
        refine ⟨r ++ [o2], by simp [hrl2], by simp, fun o3 h3 => ?_, put_other hpa.symm g4, put_other hpg2.symm g5, Rws.oth g6 fun x hx => put_ne fun z => hpqs (by rw [← z]; simp [hx]), pen_put hc, g10.pen⟩
        rcases List.mem_append.mp h3 with q | q
        · exact hro o3 q
        · rw [List.mem_singleton.mp q]; exact ho2
      · clear g4 g5 g6 g9 g10 hMx hCq
        obtain ⟨r, hrl2, rfl, hro, g4, g5, g6, g9, g10⟩ := hw
        rw [List.length_map] at hrl2
        intro w hw
        have hpw : p ≠ w := by obtain ⟨_, h, _⟩ := g9; exact ne_cell h hw
        have haw : a ≠ w := cell_ne g4 hw
        have hgw : g ≠ w := cell_ne g5 hw
        have hw0 : C w = none := g10.none hpw.symm hw
        have hqw : w ∉ qs2 := fun z => by
          obtain ⟨i, hi, rfl⟩ := List.getElem_of_mem z
          have := g6.2 i _ _ (List.getElem?_eq_getElem hi) (List.getElem?_eq_getElem (by rw [← g6.1]; exact hi))
          rw [hw] at this; cases this
        have g9 := g9.other (c := .lst (r.map oD)) hpw
        have g10 := g10.put (c := .lst (r.map oD)) hw0
        have g4 := put_other (d := .lst (r.map oD)) haw g4
        have g5 := put_other (d := .lst (r.map oD)) hgw g5
        have g6 := Rws.snoc (row := r) g6 hw
        generalize put C6 w (.lst (r.map oD)) = C7 at g4 g5 g6 g9 g10 ⊢
        walk_at "go"
        have hql2 : qs2.length = R2.length := by have := g6.1; simp only [List.length_append, List.length_singleton] at this; omega
        refine g_append g5 (by rw [List.length_map, hql2]; simp only [sizeLine]; omega) ?_
        walk_at "go"
        have hqg : ∀ q ∈ qs2 ++ [w], put C7 g (.lst (qs2.map D.ce ++ [.ce w])) q = C7 q := fun q hq => by
          refine put_ne fun z => ?_
          subst z
          rcases List.mem_append.mp hq with h | h
          · exact hg2 _ h rfl
          · exact hgw (List.mem_singleton.mp h)
        refine ⟨_, _, ⟨E2 ++ [endO E (some i)], R2 ++ [r], qs2 ++ [w], by simp [h1]; omega, by simp [h2]; omega, fun r2 h2 => ?_, put_other hag g4, by rw [put_same]; simp, Rws.oth g6 hqg, ?_, fun x hx => ?_, (g9.less).other hpg2, g10.put hg0⟩, rfl⟩
        · rcases List.mem_append.mp h2 with q | q
          · exact h3 r2 q
          · rw [List.mem_singleton.mp q]; exact ⟨hrl2.trans hrl, hro⟩
        · rw [← List.cons_append, ← List.cons_append]
          refine List.nodup_append.mpr ⟨h7, by simp, fun x hx b hb e => ?_⟩
          rw [List.mem_singleton.mp hb] at e
          subst e
          simp only [List.mem_cons] at hx
          rcases hx with h | h | h
          · exact haw h.symm
          · exact hgw h.symm
          · exact hqw h
        · rw [← List.cons_append, ← List.cons_append] at hx
          rcases List.mem_append.mp hx with h | h
          · exact h8 x h
          · rw [List.mem_singleton.mp h]; exact hw0
    · obtain ⟨x7, x10, hD, rfl⟩ := hw
      exact ⟨_, _, _, _, _, _, hD.less (by omega), rfl⟩
  · obtain ⟨x5, x6, x7, x8, x9, x10, ⟨E2, R2, qs2, h1, h2, h3, h4, h5, h6, h7, h8, h9, h10⟩, rfl⟩ := hw
    rw [enumD_len, List.length_map, hql] at h1 h2
    walk_at "go"
    rw [List.length_map]
    refine draw_ok (n := n + 1) h9.less (by omega) (by omega) fun c x hc hx => ?_
    walk_at "go"
    refine g_ifF (fun K hK => ?_) ?_
    · walk_at "go"; exact hK
    walk_at "go"
    refine g_ifF (fun K hK => ?_) ?_
    · walk_at "go"; exact hK
    walk_at "go"
    refine g_ifF (fun K hK => ?_) ?_
    · walk_at "go"; exact hK
    walk_at "go"
    have hpqs : p ∉ a :: g :: qs2 := fun z => by obtain ⟨c, h⟩ := hCp; rw [h8 p z] at h; cases h
    refine k E2 R2 _ _ a g qs2 ⟨by omega, by omega, by omega, fun r h => (h3 r h).1, fun r h t ht => by rw [h1, ← hle]; exact (h3 r h).2 _ ht t rfl⟩ (by omega) (pen_put hc).less h10.pen ⟨rfl, put_other hpa.symm h4, put_other hpg2.symm h5, Rws.oth h6 fun x hx => put_ne fun z => hpqs (by rw [← z]; simp [hx])⟩ h7 h8
end
end A_k36
namespace A_k36
open PySem L2 AL
/-- a stand of a machine of n stands, or None -/
def plO (n : Nat) : D → Option (Option Nat)
  | .non => some none
  | .int i => if 0 ≤ i ∧ i < (n : Int) then some (some i.toNat) else none
  | _ => none
theorem plO_oD {n : Nat} {d : D} {o : Option Nat} (h : plO n d = some o) : d = oD o ∧ inn n o := by
  cases d <;> simp only [plO, reduceCtorEq] at h
  · cases h; exact ⟨rfl, fun t e => by cases e⟩
  · rename_i i
    split at h
    · rename_i hi
      cases h
      refine ⟨?_, fun t e => by cases e; omega⟩
      show D.int i = D.int (i.toNat : Int)
      rw [Int.toNat_of_nonneg hi.1]
    · cases h
def prO (n m : Nat) : D → Option OP
  | .tup [a, b] => (match plO n a, plO m b with | some u, some v => some (u, v) | _, _ => none)
  | _ => none
theorem prO_pD {n m : Nat} {d : D} {p : OP} (h : prO n m d = some p) : d = pD p ∧ inn n p.1 ∧ inn m p.2 := by
  unfold prO at h
  split at h
  · split at h
    · rename_i u v h1 h2
      cases h
      obtain ⟨e1, e2⟩ := plO_oD h1
      obtain ⟨e3, e4⟩ := plO_oD h2
      exact ⟨by rw [e1, e3]; rfl, e2, e4⟩
    · cases h
  · cases h
def prs (n m : Nat) : List D → Option (List OP)
  | [] => some []
  | d :: ds => match prO n m d, prs n m ds with | some p, some ps => some (p :: ps) | _, _ => none
theorem prs_map {n m : Nat} : ∀ {ds : List D} {ps : List OP}, prs n m ds = some ps → ds = ps.map pD ∧ ∀ p ∈ ps, inn n p.1 ∧ inn m p.2
  | [], _, h => by cases h; exact ⟨rfl, by simp⟩
  | d :: ds, _, h => by
    unfold prs at h
    split at h
    · rename_i p ps h1 h2
      cases h
      obtain ⟨e1, e2⟩ := prO_pD h1
      obtain ⟨e3, e4⟩ := prs_map h2
      refine ⟨by rw [e1, e3]; rfl, fun q hq => ?_⟩
      rcases List.mem_cons.mp hq with rfl | hq
      · exact e2
      · exact e4 q hq
    · cases h
theorem prs_none {n m : Nat} {d : D} : ∀ {ds : List D}, d ∈ ds → prO n m d = none → prs n m ds = none
  | [], h, _ => by cases h
  | e :: ds, h, hd => by
    unfold prs
    rcases List.mem_cons.mp h with rfl | h
    · rw [hd]
    · rw [prs_none h hd]; cases prO n m e <;> rfl
theorem prs_snoc {n m : Nat} {d : D} {p : OP} : ∀ {ds : List D} {ps : List OP}, prs n m ds = some ps → prO n m d = some p → prs n m (ds ++ [d]) = some (ps ++ [p])
  | [], _, h, hd => by cases h; simp [prs, hd]
  | e :: ds, _, h, hd => by
    unfold prs at h
    split at h
    · rename_i q ps h1 h2
      cases h
      rw [List.cons_append]
      unfold prs
      rw [h1, prs_snoc h2 hd]
      rfl
    · cases h
section
variable {sg : Nat} {E E1 E2 : List Bool} {R R1 R2 : List (List (Option Nat))} {C : AH} {P : D → AH → Prop} {d d1 d2 : D}
/-- len(machine[0]), as the walk leaves it -/
theorem len0' {s : ASt} (hI : IsM C d E R) (k : P (.int (E.length : Nat)) C) : aIx d (.int 0) C (fun x C1 => aNil s C1 fun xs C2 => aLen (x :: xs) C2 P) := len0 hI k
theorem len10' {s s2 : ASt} (M : Mach sg E R) (hI : IsM C d E R) (k : P (.int (sg : Nat)) C) : aIx d (.int 1) C (fun x C1 => aC (.int 0) s C1 fun y C2 => aIx x y C2 fun x C1 => aNil s2 C1 fun xs C2 => aLen (x :: xs) C2 P) := len10 M hI k
theorem is_whole_ok {n : Nat} {x : D} (h : Tq n x) (k : P (.bl (isIntD x)) C) : s_is_whole [x] C P := by
  unfold s_is_whole a_is_whole
  walk_at "go"
  refine g_kIntD h ?_
  refine g_kAnd (fun e => ?_) (fun e => ?_)
  · walk_at "go"
    refine g_kBlD h ?_
    walk_at "go"
    cases x <;> first | exact k | cases e
  · cases x <;> first | exact k | cases e
theorem is_place_ok (hI : IsM C d E R) {n : Nat} {x : D} (h : Tq n x) (k : P (.bl (plO E.length x).isSome) C) : s_is_place [d, x] C P := by
  unfold s_is_place a_is_place
  walk_at "go"
  refine g_kOr (fun e => ?_) (fun e => ?_)
  · cases x <;> first | exact k | cases e
  · walk_at "go"
    refine is_whole_ok h ?_
    refine g_kAnd (fun e2 => ?_) (fun e2 => ?_)
    · cases x <;> first | (cases e2; done) | skip
      rename_i i
      walk_at "go"
      refine g_kChain (fun e3 => ?_) (fun e3 => ?_)
      · walk_at "go"
        refine len0' hI ?_
        walk_at "go"
        have h0 : 0 ≤ i := of_decide_eq_true e3
        have : (plO E.length (.int i)).isSome = decide (i < (E.length : Int)) := by
          show (if 0 ≤ i ∧ i < (E.length : Int) then some (some i.toNat) else none).isSome = _
          by_cases h1 : i < (E.length : Int)
          · rw [if_pos ⟨h0, h1⟩, decide_eq_true h1]; rfl
          · rw [if_neg (fun z => h1 z.2), decide_eq_false h1]; rfl
        rw [this] at k
        exact k
      · have h0 : ¬ 0 ≤ i := of_decide_eq_false e3
        have : (plO E.length (.int i)).isSome = false := by
          show (if 0 ≤ i ∧ i < (E.length : Int) then some (some i.toNat) else none).isSome = _
          rw [if_neg (fun z => h0 z.1)]; rfl
        rw [this] at k
        exact k
    · cases x <;> first | exact k | (cases e2; done) | (cases e; done)
theorem law_is_place_ok (hI : IsM C d E R) {n : Nat} {x : D} (h : Tq n x) (k : P (.bl (plO E.length x).isSome) C) : s_law_is_place [d, x] C P := by
  unfold s_law_is_place a_law_is_place
  walk_at "go"
  refine g_ifS ?_
  walk_at "go"
  refine g_ite (fun e => ?_) (fun e => ?_)
  · walk_at "go"
    cases x <;> first | exact k | cases e
  · walk_at "go"
    refine g_kIntD h ?_
    refine g_kAnd (fun e1 => ?_) (fun e1 => ?_)
    · walk_at "go"
      refine g_kBlD h ?_
      walk_at "go"
      refine g_kAnd (fun e2 => ?_) (fun e2 => ?_)
      · cases x <;> first | (cases e1; done) | (cases e2; done) | skip
        rename_i i
        walk_at "go"
        refine g_kChain (fun e3 => ?_) (fun e3 => ?_)
        · walk_at "go"
          refine len0' hI ?_
          walk_at "go"
          have h0 : 0 ≤ i := of_decide_eq_true e3
          have : (plO E.length (.int i)).isSome = decide (i < (E.length : Int)) := by
            show (if 0 ≤ i ∧ i < (E.length : Int) then some (some i.toNat) else none).isSome = _
            by_cases h1 : i < (E.length : Int)
            · rw [if_pos ⟨h0, h1⟩, decide_eq_true h1]; rfl
            · rw [if_neg (fun z => h1 z.2), decide_eq_false h1]; rfl
          rw [this] at k
          exact k
        · have h0 : ¬ 0 ≤ i := of_decide_eq_false e3
          have : (plO E.length (.int i)).isSome = false := by
            show (if 0 ≤ i ∧ i < (E.length : Int) then some (some i.toNat) else none).isSome = _
            rw [if_neg (fun z => h0 z.1)]; rfl
          rw [this] at k
          exact k
      · cases x <;> first | exact k | (cases e2; done)
    · cases x <;> first | exact k | (cases e1; done) | (cases e; done)
/-- the pairs of a thing -/
def pairsO (n m : Nat) : D → Option (List OP)
  | .lst ds => prs n m ds
  | _ => none
theorem tup_inv {x : D} (h : isTupD x = true) : ∃ us, x = .tup us := by cases x <;> first | exact ⟨_, rfl⟩ | cases h
theorem lst_inv {x : D} (h : isLstD x = true) : ∃ us, x = .lst us := by cases x <;> first | exact ⟨_, rfl⟩ | cases h
theorem pairsO_no {n m : Nat} {x : D} (h : isLstD x = false) : pairsO n m x = none := by cases x <;> first | rfl | cases h
theorem prO_no {n m : Nat} {x : D} (h : isTupD x = false) : prO n m x = none := by cases x <;> first | rfl | cases h
theorem prO_len {n m : Nat} {us : List D} (h : us.length ≠ 2) : prO n m (.tup us) = none := by
  unfold prO
  split
  · rename_i e
    injection e with e
    rw [e] at h
    simp at h
  · rfl
theorem prO_two {n m : Nat} (a b : D) : (prO n m (.tup [a, b])).isSome = ((plO n a).isSome && (plO m b).isSome) := by
  show (match plO n a, plO m b with | some u, some v => some (u, v) | _, _ => none : Option OP).isSome = _
  cases plO n a <;> cases plO m b <;> rfl
def s00 : OP := (some 0, some 0)
theorem are_pairs_ok (hI1 : IsM C d1 E1 R1) (hI2 : IsM C d2 E2 R2) {n : Nat} {x : D} (h : Tq n x)
    (k : P (.bl (match pairsO E1.length E2.length x with | some ps => decide (s00 ∈ ps) | none => false)) C) : s_are_pairs [d1, d2, x] C P := by
  unfold s_are_pairs a_are_pairs
  cases e : isLstD x with
  | false =>
    rw [pairsO_no e] at k
    walk_at "go"
    refine g_ifT (fun K hK => ?_) ?_
    · walk_at "go"
      refine g_kLstD h ?_
      rw [e]
      walk_at "go"
      exact hK
    walk_at "go"
    exact k
  | true =>
    obtain ⟨us, rfl⟩ := lst_inv e
    walk_at "go"
    refine g_ifF (fun K hK => ?_) ?_
    · walk_at "go"
      exact hK
    walk_at "go"
    obtain ⟨n, rfl, hus⟩ : ∃ n', n = n' + 1 ∧ ∀ d ∈ us, Tq n' d := by cases h with | lst h1 h2 => exact ⟨_, rfl, h2⟩
    refine g_kForL (fun i st C' => C' = C ∧ ∃ (ps : List OP) (x3 : Option D), prs E1.length E2.length (us.take i) = some ps ∧ st = [some d1, some d2, some (.lst us), x3]) ⟨rfl, [], none, rfl, rfl⟩ (fun i y st C' hi hw => ?_) (fun st C' hw => ?_)
    · obtain ⟨rfl, ps, x3, hps, rfl⟩ := hw
      have hy := List.mem_of_getElem? hi
      have hT := hus y hy
      have no : prO E1.length E2.length y = none → P (.bl false) C' := fun z => by
        have : pairsO E1.length E2.length (.lst us) = none := prs_none hy z
        rw [this] at k
        exact k
      refine g_ifJ (fun st C2 => C2 = C' ∧ st = [some d1, some d2, some (.lst us), some y] ∧ ∃ a b, y = .tup [a, b]) (fun N hN => ?_) (fun st C2 hw => ?_)
      · refine g_ifS ?_
        walk_at "go"
        refine g_kTupD hT ?_
        cases e1 : isTupD y with
        | false =>
          walk_at "go"
          exact no (prO_no e1)
        | true =>
          obtain ⟨ws, rfl⟩ := tup_inv e1
          walk_at "go"
          by_cases hl : ws.length = 2
          · rw [show (!decide (((ws.length : Nat) : Int) = 2)) = false by simp [hl]]
            walk_at "go"
            match ws, hl with
            | [a, b], _ => exact hN _ _ ⟨rfl, rfl, a, b, rfl⟩
          · rw [show (!decide (((ws.length : Nat) : Int) = 2)) = true by rw [decide_eq_false (by omega)]; rfl]
            walk_at "go"
            exact no (prO_len hl)
      obtain ⟨rfl, rfl, a, b, rfl⟩ := hw
      obtain ⟨n', rfl, hab⟩ : ∃ n', n = n' + 1 ∧ ∀ x ∈ [a, b], Tq n' x := by
        cases hT with | tup _ h2 => exact ⟨_, rfl, h2⟩
      have ha := hab a (by simp)
      have hb := hab b (by simp)
      refine g_ifS ?_
      walk_at "go"
      refine is_place_ok hI1 ha ?_
      walk_at "go"
      cases e1 : (plO E1.length a).isSome with
      | false =>
        walk_at "go"
        refine no ?_
        have := prO_two (n := E1.length) (m := E2.length) a b
        rw [e1] at this
        simpa using this
      | true =>
        walk_at "go"
        refine is_place_ok hI2 hb ?_
        walk_at "go"
        cases e2 : (plO E2.length b).isSome with
        | false =>
          walk_at "go"
          refine no ?_
          have := prO_two (n := E1.length) (m := E2.length) a b
          rw [e1, e2] at this
          simpa using this
        | true =>
          walk_at "go"
          have := prO_two (n := E1.length) (m := E2.length) a b
          rw [e1, e2] at this
          obtain ⟨p, hp⟩ := Option.isSome_iff_exists.mp this
          refine ⟨rfl, ps ++ [p], _, ?_, rfl⟩
          rw [List.take_add_one, hi]
          exact prs_snoc hps hp
    · obtain ⟨rfl, ps, x3, hps, rfl⟩ := hw
      rw [List.take_length] at hps
      rw [show pairsO E1.length E2.length (.lst us) = some ps from hps] at k
      obtain ⟨rfl, _⟩ := prs_map hps
      walk_at "go"
      rw [show D.tup [.int 0, .int 0] = pD s00 from rfl]
      exact g_inP k
theorem law_are_pairs_ok (hI1 : IsM C d1 E1 R1) (hI2 : IsM C d2 E2 R2) {n : Nat} {x : D} (h : Tq n x)
    (k : P (.bl (pairsO E1.length E2.length x).isSome) C) : s_law_are_pairs [d1, d2, x] C P := by
  unfold s_law_are_pairs a_law_are_pairs
  cases e : isLstD x with
  | false =>
    rw [pairsO_no e] at k
    walk_at "go"
    refine g_ifT (fun K hK => ?_) ?_
    · walk_at "go"
      refine g_kLstD h ?_
      rw [e]
      walk_at "go"
      exact hK
    walk_at "go"
    exact k
  | true =>
    obtain ⟨us, rfl⟩ := lst_inv e
    walk_at "go"
    refine g_ifF (fun K hK => ?_) ?_
    · walk_at "go"
      exact hK
    walk_at "go"
    obtain ⟨n, rfl, hus⟩ : ∃ n', n = n' + 1 ∧ ∀ d ∈ us, Tq n' d := by cases h with | lst h1 h2 => exact ⟨_, rfl, h2⟩
    refine g_kForL (fun i st C' => C' = C ∧ ∃ (ps : List OP) (x3 : Option D), prs E1.length E2.length (us.take i) = some ps ∧ st = [some d1, some d2, some (.lst us), x3]) ⟨rfl, [], none, rfl, rfl⟩ (fun i y st C' hi hw => ?_) (fun st C' hw => ?_)
    · obtain ⟨rfl, ps, x3, hps, rfl⟩ := hw
      have hy := List.mem_of_getElem? hi
      have hT := hus y hy
      have no : prO E1.length E2.length y = none → P (.bl false) C' := fun z => by
        have : pairsO E1.length E2.length (.lst us) = none := prs_none hy z
        rw [this] at k
        exact k
      refine g_ifJ (fun st C2 => C2 = C' ∧ st = [some d1, some d2, some (.lst us), some y] ∧ ∃ a b, y = .tup [a, b]) (fun N hN => ?_) (fun st C2 hw => ?_)
      · refine g_ifS ?_
        walk_at "go"
        refine g_kTupD hT ?_
        cases e1 : isTupD y with
        | false =>
          walk_at "go"
          exact no (prO_no e1)
        | true =>
          obtain ⟨ws, rfl⟩ := tup_inv e1
          walk_at "go"
          by_cases hl : ws.length = 2
          · rw [show (!decide (((ws.length : Nat) : Int) = 2)) = false by simp [hl]]
            walk_at "go"
            match ws, hl with
            | [a, b], _ => exact hN _ _ ⟨rfl, rfl, a, b, rfl⟩
          · rw [show (!decide (((ws.length : Nat) : Int) = 2)) = true by rw [decide_eq_false (by omega)]; rfl]
            walk_at "go"
            exact no (prO_len hl)
      obtain ⟨rfl, rfl, a, b, rfl⟩ := hw
      obtain ⟨n', rfl, hab⟩ : ∃ n', n = n' + 1 ∧ ∀ x ∈ [a, b], Tq n' x := by
        cases hT with | tup _ h2 => exact ⟨_, rfl, h2⟩
      have ha := hab a (by simp)
      have hb := hab b (by simp)
      refine g_ifS ?_
      walk_at "go"
      refine law_is_place_ok hI1 ha ?_
      walk_at "go"
      cases e1 : (plO E1.length a).isSome with
      | false =>
        walk_at "go"
        refine no ?_
        have := prO_two (n := E1.length) (m := E2.length) a b
        rw [e1] at this
        simpa using this
      | true =>
        walk_at "go"
        refine law_is_place_ok hI2 hb ?_
        walk_at "go"
        cases e2 : (plO E2.length b).isSome with
        | false =>
          walk_at "go"
          refine no ?_
          have := prO_two (n := E1.length) (m := E2.length) a b
          rw [e1, e2] at this
          simpa using this
        | true =>
          walk_at "go"
          have := prO_two (n := E1.length) (m := E2.length) a b
          rw [e1, e2] at this
          obtain ⟨p, hp⟩ := Option.isSome_iff_exists.mp this
          refine ⟨rfl, ps ++ [p], _, ?_, rfl⟩
          rw [List.take_add_one, hi]
          exact prs_snoc hps hp
    · obtain ⟨rfl, ps, x3, hps, rfl⟩ := hw
      rw [List.take_length] at hps
      rw [show pairsO E1.length E2.length (.lst us) = some ps from hps] at k
      walk_at "go"
      exact k
end
end A_k36
namespace A_k36
open PySem L2 AL
/-- whether a pair is parted -/
def partB (E1 E2 : List Bool) (w : Bool) (p : OP) : Bool := (endO E1 p.1 && !endO E2 p.2) || (w && (endO E2 p.2 && !endO E1 p.1))
def nxP (R1 R2 : List (List (Option Nat))) (p : OP) (x : Nat) : OP := (stepO R1 p.1 x, stepO R2 p.2 x)
/-- whether it goes on -/
def onB (w : Bool) (q : OP) : Bool := q.1.isSome || (w && q.2.isSome)
def goB (R1 R2 : List (List (Option Nat))) (sg : Nat) (w : Bool) (ps : List OP) (p : OP) : Bool := (List.range sg).all fun x => !(onB w (nxP R1 R2 p x) && !decide (nxP R1 R2 p x ∈ ps))
def shutP (E1 E2 : List Bool) (R1 R2 : List (List (Option Nat))) (sg : Nat) (w : Bool) (ps : List OP) (p : OP) : Bool := !partB E1 E2 w p && goB R1 R2 sg w ps p
def shutB (E1 E2 : List Bool) (R1 R2 : List (List (Option Nat))) (sg : Nat) (w : Bool) (ps : List OP) : Bool := ps.all (shutP E1 E2 R1 R2 sg w ps)
theorem all_no {α : Type} {f : α → Bool} {l : List α} {x : α} (hx : x ∈ l) (h : f x = false) : l.all f = false := by
  rw [List.all_eq_false]
  exact ⟨x, hx, by rw [h]; simp⟩
theorem all_step {α : Type} {f : α → Bool} {l : List α} {i : Nat} {d : α} (h : (l.take i).all f = true) (e : l[i]? = some d) (hd : f d = true) : (l.take (i + 1)).all f = true := by
  rw [List.take_add_one, e, List.all_append, h]
  simp [hd]
theorem all_nub (f : OP → Bool) (ps : List OP) : (nub ps).all f = ps.all f := by
  rw [Bool.eq_iff_iff, List.all_eq_true, List.all_eq_true]
  exact ⟨fun h p hp => h p (mem_nub.mpr hp), fun h p hp => h p (mem_nub.mp hp)⟩
theorem isNon_some (o : Option Nat) : (!isNon (oD o)) = o.isSome := by cases o <;> rfl
section
variable {sg : Nat} {E E1 E2 : List Bool} {R R1 R2 : List (List (Option Nat))} {C : AH} {P : D → AH → Prop} {d d1 d2 : D}
theorem is_parted_ok (hI1 : IsM C d1 E1 R1) (hI2 : IsM C d2 E2 R2) {p : OP} (h1 : inn E1.length p.1) (h2 : inn E2.length p.2) {w : Bool} (k : P (.bl (partB E1 E2 w p)) C) : s_is_parted [d1, d2, pD p, .bl w] C P := by
  obtain ⟨o1, o2⟩ := p
  unfold s_is_parted a_is_parted pD
  walk_at "go"
  refine is_end_ok hI1 h1 ?_
  walk_at "go"
  refine is_end_ok hI2 h2 ?_
  unfold partB at k
  simp only at k
  generalize endO E1 o1 = a at k ⊢
  generalize endO E2 o2 = b at k ⊢
  cases a <;> cases b <;> cases w <;> walk_at "bo" <;> exact k
theorem is_shut_ok (M1 : Mach sg E1 R1) (M2 : Mach sg E2 R2) (hs : sg ≤ 12) (hI1 : IsM C d1 E1 R1) (hI2 : IsM C d2 E2 R2) {ps : List OP} (hin : ∀ p ∈ ps, inn E1.length p.1 ∧ inn E2.length p.2) (hl : ps.length ≤ 5000) {w : Bool}
    (k : ∀ C', AL.Keep C C' → P (.bl (shutB E1 E2 R1 R2 sg w ps)) C') : s_is_shut [d1, d2, .lst (ps.map pD), .bl w] C P := by
  unfold s_is_shut a_is_shut
  walk_at "go"
  refine g_kLcMap (fun d => .tup [d, .bl true]) (by rw [List.length_map]; simp only [sizeLine]; omega) (fun d hd R hR => ?_) ?_
  · walk_at "go"
    exact hR
  walk_at "go"
  rw [List.map_map, show ((fun d => D.tup [d, .bl true]) ∘ pD) = fun p => D.tup [pD p, .bl true] from rfl]
  refine g_dictW (pairsW_eP ps) fun q hq => ?_
  rw [show mergeW [] (ps.map eP) = (nub ps).map eP from merge_eP ps []]
  walk_at "go"
  refine g_kIKW put_same fun l => ?_
  rw [put_put]
  have hK : AL.Keep C (put C q (.dw (some l) ((nub ps).map eP))) := (AL.Keep.refl C).put hq
  have hCq : put C q (.dw (some l) ((nub ps).map eP)) q = some (.dw (some l) ((nub ps).map eP)) := put_same
  generalize put C q (.dw (some l) ((nub ps).map eP)) = C1 at hK hCq ⊢
  have hI1 := hI1.keep hK
  have hI2 := hI2.keep hK
  have k := k C1 hK
  rw [List.map_map, show ((·.1) ∘ eP : OP → D) = pD from rfl]
  unfold shutB at k
  rw [← all_nub] at k
  have hin : ∀ p ∈ nub ps, inn E1.length p.1 ∧ inn E2.length p.2 := fun p hp => hin p (mem_nub.mp hp)
  refine g_kForH (fun i st C' => C' = C1 ∧ ((nub ps).take i).all (shutP E1 E2 R1 R2 sg w ps) = true ∧ ∃ x4 x6 x7 x8 : Option D, st = [some d1, some d2, some (.lst (ps.map pD)), some (.bl w), x4, some (.ce q), x6, x7, x8]) ⟨rfl, rfl, _, _, _, _, rfl⟩ (fun i st C' hi hw => ?_) (fun i y st C' hi hw => ?_) (fun st C' hw => ?_)
  · rw [hw.1]; exact hCq
  · obtain ⟨rfl, hall, x4, x6, x7, x8, rfl⟩ := hw
    rw [List.getElem?_map] at hi
    obtain ⟨p, hp, rfl⟩ := Option.map_eq_some_iff.mp hi
    have hpm := List.mem_of_getElem? hp
    obtain ⟨hp1, hp2⟩ := hin p hpm
    walk_at "go"
    have no : shutP E1 E2 R1 R2 sg w ps p = false → P (.bl false) C' := fun z => by
      rw [all_no hpm z] at k
      exact k
    refine g_ifS ?_
    walk_at "go"
    refine is_parted_ok hI1 hI2 hp1 hp2 ?_
    walk_at "go"
    refine g_ite (fun e => ?_) (fun e => ?_)
    · walk_at "go"
      exact no (by unfold shutP; rw [e]; rfl)
    walk_at "go"
    have e2 : shutP E1 E2 R1 R2 sg w ps p = goB R1 R2 sg w ps p := by unfold shutP; rw [e]; rfl
    rw [e2] at no
    refine len10' M1 hI1 ?_
    walk_at "go"
    refine g_kForR0 (fun x st C2 => C2 = C' ∧ ((List.range sg).take x).all (fun x => !(onB w (nxP R1 R2 p x) && !decide (nxP R1 R2 p x ∈ ps))) = true ∧ ∃ x6 x7 x8 : Option D, st = [some d1, some d2, some (.lst (ps.map pD)), some (.bl w), some (pD p), some (.ce q), x6, x7, x8]) ⟨rfl, rfl, _, _, _, rfl⟩ (fun x st C2 hx hw => ?_) (fun st C2 hw => ?_)
    · obtain ⟨rfl, hax, x6, x7, x8, rfl⟩ := hw
      have hx2 : x < sg := hx
      have hxr : (List.range sg)[x]? = some x := List.getElem?_range hx2
      obtain ⟨o1, o2⟩ := p
      rw [show pD (o1, o2) = D.tup [oD o1, oD o2] from rfl]
      walk_at "go"
      refine led_ok M1 hI1 hp1 hx2 ?_
      walk_at "go"
      refine led_ok M2 hI2 hp2 hx2 ?_
      have no : onB w (nxP R1 R2 (o1, o2) x) = true → decide (nxP R1 R2 (o1, o2) x ∈ ps) = false → P (.bl false) C2 := fun z1 z2 => by
        refine no (all_no (List.mem_range.mpr hx2) ?_)
        simp only [z1, z2]; rfl
      have yes : (onB w (nxP R1 R2 (o1, o2) x) = false ∨ decide (nxP R1 R2 (o1, o2) x ∈ ps) = true) → ((List.range sg).take (x + 1)).all (fun x => !(onB w (nxP R1 R2 (o1, o2) x) && !decide (nxP R1 R2 (o1, o2) x ∈ ps))) = true := fun z => by
        refine all_step hax hxr ?_
        rcases z with z | z
        · simp only [z]; rfl
        · simp only [z]; simp
      have hnx : nxP R1 R2 (o1, o2) x = (stepO R1 o1 x, stepO R2 o2 x) := rfl
      generalize nxP R1 R2 (o1, o2) x = nx at hnx no yes
      have hsome : onB w nx = ((stepO R1 o1 x).isSome || (w && (stepO R2 o2 x).isSome)) := by rw [hnx]; rfl
      walk_at "go"
      rw [isNon_some]
      have hlook : lookD C2 (.ce q) (.tup [oD (stepO R1 o1 x), oD (stepO R2 o2 x)]) = some (valND (keysW ((nub ps).map eP)) (pk nx)) := by
        rw [hnx]
        exact lookD_dw hCq (keyT_pD (stepO R1 o1 x, stepO R2 o2 x))
      have hmem : (valND (keysW ((nub ps).map eP)) (pk nx)).isSome = decide (nx ∈ ps) := by
        rw [val_eP]
        exact decide_eq_decide.mpr mem_nub
      cases hu : (stepO R1 o1 x).isSome with
      | true =>
        have hon : onB w nx = true := by rw [hsome, hu]; rfl
        walk_at "bo"
        refine g_ifS ?_
        walk_at "go"
        refine g_kInN hlook ?_
        rw [if_pos rfl, hmem]
        walk_at "go"
        cases hd : decide (nx ∈ ps) with
        | true => walk_at "go"; exact ⟨rfl, yes (.inr hd), _, _, _, rfl⟩
        | false => walk_at "go"; exact no hon hd
      | false =>
        cases w with
        | false =>
          have hon : onB false nx = false := by rw [hsome, hu]; rfl
          walk_at "bo"
          refine g_ifF (fun K hK => ?_) ?_
          · walk_at "go"; exact hK
          walk_at "go"
          exact ⟨rfl, yes (.inl hon), _, _, _, rfl⟩
        | true =>
          walk_at "bo"
          rw [isNon_some]
          cases hv : (stepO R2 o2 x).isSome with
          | true =>
            have hon : onB true nx = true := by rw [hsome, hu, hv]; rfl
            walk_at "bo"
            refine g_ifS ?_
            walk_at "go"
            refine g_kInN hlook ?_
            rw [if_pos rfl, hmem]
            walk_at "go"
            cases hd : decide (nx ∈ ps) with
            | true => walk_at "go"; exact ⟨rfl, yes (.inr hd), _, _, _, rfl⟩
            | false => walk_at "go"; exact no hon hd
          | false =>
            have hon : onB true nx = false := by rw [hsome, hu, hv]; rfl
            walk_at "bo"
            refine g_ifF (fun K hK => ?_) ?_
            · walk_at "go"; exact hK
            walk_at "go"
            exact ⟨rfl, yes (.inl hon), _, _, _, rfl⟩
    · obtain ⟨rfl, hax, x6, x7, x8, rfl⟩ := hw
      rw [show (List.range sg).take ((sg : Int).toNat) = List.range sg from List.take_of_length_le (by simp)] at hax
      exact ⟨rfl, all_step hall hp (by rw [e2]; exact hax), _, _, _, _, rfl⟩
  · obtain ⟨rfl, hall, x4, x6, x7, x8, rfl⟩ := hw
    rw [List.length_map, List.take_length] at hall
    walk_at "go"
    rw [hall] at k
    exact k
end
end A_k36
namespace A_k36
open PySem L2 AL
def oV : Option Nat → V
  | none => .non
  | some n => .int (n : Int)
theorem toVs_oD : ∀ l : List (Option Nat), toVs (l.map oD) = some (l.map oV)
  | [] => rfl
  | o :: l => by
    rw [List.map_cons]
    unfold toVs
    rw [toVs_oD l]
    cases o <;> rfl
theorem inV_non (l : List (Option Nat)) : inV .non (l.map oV) = l.any (·.isNone) := by
  unfold inV
  rw [List.any_map]
  congr 1
  funext o
  cases o <;> simp [oV, eqV]
/-- whether the pairs show it -/
def lawP (E1 E2 : List Bool) (R1 R2 : List (List (Option Nat))) (sg : Nat) (w : Bool) (ps : List OP) (p : OP) : Bool := !(partB E1 E2 w p || (!w && p.1.isNone)) && goB R1 R2 sg w ps p
def holdB (E1 E2 : List Bool) (R1 R2 : List (List (Option Nat))) (sg : Nat) (w : Bool) (x : D) : Bool := match pairsO E1.length E2.length x with
  | some ps => decide (s00 ∈ ps) && ps.all (lawP E1 E2 R1 R2 sg w ps)
  | none => false
theorem law_shut (E1 E2 : List Bool) (R1 R2 : List (List (Option Nat))) (sg : Nat) (w : Bool) (qs ps : List OP) : ps.all (lawP E1 E2 R1 R2 sg w qs) = ((w || !ps.any (·.1.isNone)) && ps.all (shutP E1 E2 R1 R2 sg w qs)) := by
  induction ps with
  | nil => cases w <;> rfl
  | cons p ps ih =>
    rw [List.all_cons, List.all_cons, List.any_cons, ih]
    unfold lawP shutP
    cases partB E1 E2 w p <;> cases w <;> cases p.1.isNone <;> cases goB R1 R2 sg _ qs p <;> simp
theorem valND_snoc {es : List (NestedKey × D)} {p : OP} {l : List OP} (h : ∀ u, (valND es (pk u)).isSome = decide (u ∈ l)) (d : D) : ∀ u, (valND (putND es (pk p) d) (pk u)).isSome = decide (u ∈ l ++ [p]) := by
  intro u
  rw [valND_put]
  by_cases e : u = p
  · subst e; simp
  · rw [if_neg (fun z => e (pk_inj z)), h]
    simp [e]
theorem putND_len (es : List (NestedKey × D)) (k : NestedKey) (d : D) : (putND es k d).length ≤ es.length + 1 := by
  unfold putND
  split
  · rw [List.length_map]; omega
  · rw [List.length_append]; simp
section
variable {sg : Nat} {E E1 E2 : List Bool} {R R1 R2 : List (List (Option Nat))} {C : AH} {P : D → AH → Prop} {d d1 d2 : D}
theorem g_inNon {l : List (Option Nat)} (h : P (.bl (l.any (·.isNone))) C) : aInL .non (.lst (l.map oD)) C P := by
  show (match toV .non, (asS C (.lst (l.map oD))).bind toVs with | some u, some us => P (.bl (if false then !inV u us else inV u us)) C | _, _ => False)
  rw [show (asS C (.lst (l.map oD))).bind toVs = some (l.map oV) from toVs_oD l]
  show P (.bl (inV .non (l.map oV))) C
  rw [inV_non]; exact h
theorem law_hold_ok (M1 : Mach sg E1 R1) (M2 : Mach sg E2 R2) (hs : sg ≤ 12) (hI1 : IsM C d1 E1 R1) (hI2 : IsM C d2 E2 R2) {n : Nat} {x : D} (h : Tq n x) {w : Bool}
    (k : ∀ C', AL.Keep C C' → P (.bl (holdB E1 E2 R1 R2 sg w x)) C') : s_law_hold [d1, d2, x, .bl w] C P := by
  unfold s_law_hold a_law_hold
  walk_at "go"
  refine g_ifJ (fun st C' => C' = C ∧ st = [some d1, some d2, some x, some (.bl w), none, none, none, none, none, none, none, none] ∧ ∃ ps, pairsO E1.length E2.length x = some ps ∧ s00 ∈ ps) (fun N hN => ?_) (fun st C' hw => ?_)
  · refine g_ifS ?_
    walk_at "go"
    refine law_are_pairs_ok hI1 hI2 h ?_
    cases e : pairsO E1.length E2.length x with
    | none =>
      rw [show (none : Option (List OP)).isSome = false from rfl]
      walk_at "go"
      have : holdB E1 E2 R1 R2 sg w x = false := by unfold holdB; rw [e]
      rw [this] at k
      exact k C (AL.Keep.refl C)
    | some ps =>
      rw [show (some ps).isSome = true from rfl]
      walk_at "go"
      have ex : x = .lst (ps.map pD) := by
        cases x <;> first | (cases e; done) | skip
        exact congrArg D.lst (prs_map e).1
      subst ex
      rw [show D.tup [.int 0, .int 0] = pD s00 from rfl]
      refine g_ninP ?_
      cases e2 : decide (s00 ∈ ps) with
      | false =>
        walk_at "go"
        have : holdB E1 E2 R1 R2 sg w (.lst (ps.map pD)) = false := by unfold holdB; rw [e]; simp only [e2]; rfl
        rw [this] at k
        exact k C (AL.Keep.refl C)
      | true =>
        walk_at "go"
        exact hN _ _ ⟨rfl, rfl, ps, e, of_decide_eq_true e2⟩
  obtain ⟨rfl, rfl, ps, e, e2⟩ := hw
  have hk : holdB E1 E2 R1 R2 sg w x = ps.all (lawP E1 E2 R1 R2 sg w ps) := by unfold holdB; rw [e]; simp [e2]
  have hx : x = .lst (ps.map pD) ∧ ∀ p ∈ ps, inn E1.length p.1 ∧ inn E2.length p.2 := by
    cases x <;> first | (cases e; done) | skip
    exact ⟨congrArg D.lst (prs_map e).1, (prs_map e).2⟩
  obtain ⟨rfl, hin⟩ := hx
  have hpl : ps.length ≤ 2000 := by cases h with | lst h1 h2 => rw [List.length_map] at h1; exact h1
  rw [hk] at k
  clear hk e e2 h
  walk_at "go"
  unfold aDict0N
  intro q hq
  have hK : AL.Keep C' (put C' q (.dn [])) := (AL.Keep.refl C').put hq
  have hCq : put C' q (.dn []) q = some (.dn []) := put_same
  generalize put C' q (.dn []) = C1 at hK hCq ⊢
  walk_at "go"
  refine g_kForL (fun i st C2 => ∃ (es : List (NestedKey × D)) (x5 : Option D), AL.Keep C' C2 ∧ C2 q = some (.dn es) ∧ es.length ≤ i ∧ (∀ u, (valND es (pk u)).isSome = decide (u ∈ ps.take i)) ∧ st = [some d1, some d2, some (.lst (ps.map pD)), some (.bl w), some (.ce q), x5, none, none, none, none, none, none]) ⟨[], none, hK, hCq, Nat.le_refl _, (fun u => by simp [valND]), rfl⟩ (fun i y st C2 hi hw => ?_) (fun st C2 hw => ?_)
  · clear hK hCq
    obtain ⟨es, x5, hK, hCq, hel, hval, rfl⟩ := hw
    rw [List.getElem?_map] at hi
    obtain ⟨p, hp, rfl⟩ := Option.map_eq_some_iff.mp hi
    have hil := (List.getElem?_eq_some_iff.mp hp).1
    walk_at "go"
    refine g_kPutN hCq (keyT_pD p) (by simp only [sizeLine]; omega) ?_
    refine ⟨_, _, hK.put hq, put_same, by have := putND_len es (pk p) (.bl true); omega, ?_, rfl⟩
    rw [List.take_add_one, hp]
    exact valND_snoc hval _
  clear hK hCq
  obtain ⟨es, x5, hK, hCq, hel, hval, rfl⟩ := hw
  rw [List.length_map, List.take_length] at hval
  walk_at "go"
  have k := k C2 hK
  have hI1 := hI1.keep hK
  have hI2 := hI2.keep hK
  refine g_kFor (fun i st C3 => C3 = C2 ∧ (ps.take i).all (lawP E1 E2 R1 R2 sg w ps) = true ∧ ∃ x6 x7 x8 x9 x10 x11 : Option D, st = [some d1, some d2, some (.lst (ps.map pD)), some (.bl w), some (.ce q), x5, x6, x7, x8, x9, x10, x11]) ⟨rfl, rfl, _, _, _, _, _, _, rfl⟩ (fun i y st C3 hi hw => ?_) (fun st C3 hw => ?_)
  · obtain ⟨rfl, hall, x6, x7, x8, x9, x10, x11, rfl⟩ := hw
    rw [List.getElem?_map] at hi
    obtain ⟨p, hp, rfl⟩ := Option.map_eq_some_iff.mp hi
    have hpm := List.mem_of_getElem? hp
    obtain ⟨hp1, hp2⟩ := hin p hpm
    have no : lawP E1 E2 R1 R2 sg w ps p = false → P (.bl false) C3 := fun z => by
      rw [all_no hpm z] at k
      exact k
    have yes : lawP E1 E2 R1 R2 sg w ps p = true → (ps.take (i + 1)).all (lawP E1 E2 R1 R2 sg w ps) = true := fun z => all_step hall hp z
    obtain ⟨o1, o2⟩ := p
    rw [show pD (o1, o2) = D.tup [oD o1, oD o2] from rfl]
    walk_at "go"
    refine law_is_end_ok hI1 hp1 ?_
    walk_at "go"
    refine law_is_end_ok hI2 hp2 ?_
    walk_at "go"
    have hpart : partB E1 E2 w (o1, o2) = ((endO E1 o1 && !endO E2 o2) || (w && (endO E2 o2 && !endO E1 o1))) := rfl
    have hisn : isNon (oD o1) = o1.isNone := isNon_oD o1
    have hlaw : lawP E1 E2 R1 R2 sg w ps (o1, o2) = (!(((endO E1 o1 && !endO E2 o2) || (w && (endO E2 o2 && !endO E1 o1))) || (!w && o1.isNone)) && goB R1 R2 sg w ps (o1, o2)) := by unfold lawP; rw [hpart]
    rw [hlaw] at no yes
    clear hlaw hpart
    refine g_ifJ (fun st C4 => C4 = C3 ∧ st = [some d1, some d2, some (.lst (ps.map pD)), some (.bl w), some (.ce q), x5, some (oD o1), some (oD o2), some (.bl (endO E1 o1)), some (.bl (endO E2 o2)), x10, x11] ∧ (((endO E1 o1 && !endO E2 o2) || (w && (endO E2 o2 && !endO E1 o1))) || (!w && o1.isNone)) = false) (fun N hN => ?_) (fun st C4 hw => ?_)
    · refine g_ifS ?_
      generalize endO E1 o1 = a at hN no yes ⊢
      generalize endO E2 o2 = b at hN no yes ⊢
      walk_at "go"
      have stop : (((a && !b) || (w && (b && !a))) || (!w && o1.isNone)) = true → P (.bl false) C3 := fun z => no (by rw [z]; rfl)
      have go : (((a && !b) || (w && (b && !a))) || (!w && o1.isNone)) = false → N [some d1, some d2, some (.lst (ps.map pD)), some (.bl w), some (.ce q), x5, some (oD o1), some (oD o2), some (.bl a), some (.bl b), x10, x11] C3 := fun z => hN _ _ ⟨rfl, rfl, z⟩
      clear no yes hN
      rw [← hisn] at stop go
      cases a <;> cases b <;> cases w <;> (repeat (first | walk_at "go1" | rw [if_pos rfl] | rw [if_neg Bool.false_ne_true])) <;> first | exact stop rfl | exact go rfl | (cases hz : isNon (oD o1) <;> rw [hz] at stop go <;> (repeat (first | walk_at "go1" | rw [if_pos rfl] | rw [if_neg Bool.false_ne_true])) <;> first | exact stop rfl | exact go rfl)
    · obtain ⟨rfl, rfl, hno⟩ := hw
      rw [hno] at no yes
      have no : goB R1 R2 sg w ps (o1, o2) = false → P (.bl false) C4 := fun z => no (by rw [z]; rfl)
      have yes : goB R1 R2 sg w ps (o1, o2) = true → _ := fun z => yes (by rw [z]; rfl)
      walk_at "go"
      refine len10' M1 hI1 ?_
      walk_at "go"
      refine g_kForR0 (fun x st C2 => C2 = C4 ∧ ((List.range sg).take x).all (fun x => !(onB w (nxP R1 R2 (o1, o2) x) && !decide (nxP R1 R2 (o1, o2) x ∈ ps))) = true ∧ ∃ x10 x11 : Option D, st = [some d1, some d2, some (.lst (ps.map pD)), some (.bl w), some (.ce q), x5, some (oD o1), some (oD o2), some (.bl (endO E1 o1)), some (.bl (endO E2 o2)), x10, x11]) ⟨rfl, rfl, _, _, rfl⟩ (fun x st C2 hx hw => ?_) (fun st C2 hw => ?_)
      · obtain ⟨rfl, hax, x10, x11, rfl⟩ := hw
        have hx2 : x < sg := hx
        have hxr : (List.range sg)[x]? = some x := List.getElem?_range hx2
        walk_at "go"
        refine law_led_ok M1 hI1 hp1 hx2 ?_
        walk_at "go"
        refine law_led_ok M2 hI2 hp2 hx2 ?_
        have no : onB w (nxP R1 R2 (o1, o2) x) = true → decide (nxP R1 R2 (o1, o2) x ∈ ps) = false → P (.bl false) C2 := fun z1 z2 => by
          refine no (all_no (List.mem_range.mpr hx2) ?_)
          simp only [z1, z2]; rfl
        have yes2 : (onB w (nxP R1 R2 (o1, o2) x) = false ∨ decide (nxP R1 R2 (o1, o2) x ∈ ps) = true) → ((List.range sg).take (x + 1)).all (fun x => !(onB w (nxP R1 R2 (o1, o2) x) && !decide (nxP R1 R2 (o1, o2) x ∈ ps))) = true := fun z => by
          refine all_step hax hxr ?_
          rcases z with z | z
          · simp only [z]; rfl
          · simp only [z]; simp
        have hnx : nxP R1 R2 (o1, o2) x = (stepO R1 o1 x, stepO R2 o2 x) := rfl
        generalize nxP R1 R2 (o1, o2) x = nx at hnx no yes2
        have hsome : onB w nx = ((stepO R1 o1 x).isSome || (w && (stepO R2 o2 x).isSome)) := by rw [hnx]; rfl
        have hlook : lookD C2 (.ce q) (.tup [oD (stepO R1 o1 x), oD (stepO R2 o2 x)]) = some (valND es (pk nx)) := by
          rw [hnx]
          exact lookD_dn hCq (keyT_pD (stepO R1 o1 x, stepO R2 o2 x))
        have hmem : (valND es (pk nx)).isSome = decide (nx ∈ ps) := hval nx
        walk_at "go"
        refine g_ifS ?_
        walk_at "go"
        refine g_kInN hlook ?_
        rw [if_pos rfl, hmem]
        walk_at "go"
        cases hd : decide (nx ∈ ps) with
        | true => walk_at "go"; exact ⟨rfl, yes2 (.inr hd), _, _, rfl⟩
        | false =>
          walk_at "go"
          rw [isNon_some]
          cases hu : (stepO R1 o1 x).isSome with
          | true =>
            have hon : onB w nx = true := by rw [hsome, hu]; rfl
            walk_at "go"
            exact no hon hd
          | false =>
            cases w with
            | false =>
              have hon : onB false nx = false := by rw [hsome, hu]; rfl
              walk_at "go"
              exact ⟨rfl, yes2 (.inl hon), _, _, rfl⟩
            | true =>
              walk_at "go"
              rw [isNon_some]
              cases hv : (stepO R2 o2 x).isSome with
              | true =>
                have hon : onB true nx = true := by rw [hsome, hu, hv]; rfl
                walk_at "go"
                exact no hon hd
              | false =>
                have hon : onB true nx = false := by rw [hsome, hu, hv]; rfl
                walk_at "go"
                exact ⟨rfl, yes2 (.inl hon), _, _, rfl⟩
      · obtain ⟨rfl, hax, x10, x11, rfl⟩ := hw
        rw [show (List.range sg).take ((sg : Int).toNat) = List.range sg from List.take_of_length_le (by simp)] at hax
        exact ⟨rfl, yes hax, _, _, _, _, _, _, rfl⟩
  · obtain ⟨rfl, hall, x6, x7, x8, x9, x10, x11, rfl⟩ := hw
    rw [List.length_map, List.take_length] at hall
    walk_at "go"
    rw [hall] at k
    exact k
end
end A_k36
namespace A_k36
open PySem L2 AL
section
variable {sg : Nat} {E E1 E2 : List Bool} {R R1 R2 : List (List (Option Nat))} {C : AH} {P : D → AH → Prop} {d d1 d2 : D}
theorem thing_pairs {n m : Nat} {x : D} {ps : List OP} (e : pairsO n m x = some ps) : x = .lst (ps.map pD) ∧ ∀ p ∈ ps, inn n p.1 ∧ inn m p.2 := by
  cases x <;> first | (cases e; done) | skip
  exact ⟨congrArg D.lst (prs_map e).1, (prs_map e).2⟩
theorem alike_ok (M1 : Mach sg E1 R1) (M2 : Mach sg E2 R2) (hs : sg ≤ 12) (hI1 : IsM C d1 E1 R1) (hI2 : IsM C d2 E2 R2) {n : Nat} {x : D} (h : Tq n x)
    (k : ∀ C', AL.Keep C C' → P (.bl (holdB E1 E2 R1 R2 sg true x)) C') : s_holds_alike [d1, d2, x] C P := by
  unfold s_holds_alike a_holds_alike
  walk_at "go"
  refine are_pairs_ok hI1 hI2 h ?_
  unfold holdB at k
  cases e : pairsO E1.length E2.length x with
  | none =>
    rw [e] at k
    exact g_kAnd (fun z => by cases z) fun _ => k C (AL.Keep.refl C)
  | some ps =>
    rw [e] at k
    obtain ⟨rfl, hin⟩ := thing_pairs e
    have hpl : ps.length ≤ 2000 := by cases h with | lst h1 h2 => rw [List.length_map] at h1; exact h1
    refine g_kAnd (fun z => ?_) fun z => ?_
    · walk_at "go"
      refine is_shut_ok M1 M2 hs hI1 hI2 hin (by omega) fun C' hK => ?_
      have := k C' hK
      simp only [show decide (s00 ∈ ps) = true from z, Bool.true_and, law_shut, Bool.true_or] at this
      exact this
    · have := k C (AL.Keep.refl C)
      simpa only [show decide (s00 ∈ ps) = false from z, Bool.false_and] using this
theorem within_ok (M1 : Mach sg E1 R1) (M2 : Mach sg E2 R2) (hs : sg ≤ 12) (hI1 : IsM C d1 E1 R1) (hI2 : IsM C d2 E2 R2) {n : Nat} {x : D} (h : Tq n x)
    (k : ∀ C', AL.Keep C C' → P (.bl (holdB E1 E2 R1 R2 sg false x)) C') : s_holds_within [d1, d2, x] C P := by
  unfold s_holds_within a_holds_within
  walk_at "go"
  unfold holdB at k
  refine g_ifJ (fun st C' => C' = C ∧ st = [some d1, some d2, some x, none] ∧ ∃ ps, pairsO E1.length E2.length x = some ps ∧ s00 ∈ ps ∧ ps.any (·.1.isNone) = false) (fun N hN => ?_) (fun st C' hw => ?_)
  · refine g_ifS ?_
    walk_at "go"
    refine are_pairs_ok hI1 hI2 h ?_
    cases e : pairsO E1.length E2.length x with
    | none =>
      rw [e] at k
      walk_at "go"
      exact k C (AL.Keep.refl C)
    | some ps =>
      rw [e] at k
      show kTru _ (.bl (decide (s00 ∈ ps))) C
      obtain ⟨rfl, hin⟩ := thing_pairs e
      have hpl : ps.length ≤ 2000 := by cases h with | lst h1 h2 => rw [List.length_map] at h1; exact h1
      cases e2 : decide (s00 ∈ ps) with
      | false =>
        walk_at "go"
        have := k C (AL.Keep.refl C)
        simpa only [e2, Bool.false_and] using this
      | true =>
        walk_at "go"
        refine g_kLcMap (fun d => match d with | .tup (o :: _) => o | d => d) (by rw [List.length_map]; simp only [sizeLine]; omega) (fun d hd R hR => ?_) ?_
        · obtain ⟨p, _, rfl⟩ := List.mem_map.mp hd
          rw [show pD p = D.tup [oD p.1, oD p.2] from rfl] at hR ⊢
          walk_at "go"
          exact hR
        rw [List.map_map, show ((fun d => match d with | .tup (o :: _) => o | d => d) ∘ pD : OP → D) = fun p => oD p.1 from rfl]
        rw [show (ps.map fun p => oD p.1) = (ps.map (·.1)).map oD by rw [List.map_map]; rfl]
        refine g_inNon ?_
        rw [List.any_map]
        cases e3 : ps.any ((fun o : Option Nat => o.isNone) ∘ (·.1)) with
        | true =>
          walk_at "go"
          have := k C (AL.Keep.refl C)
          have e4 : ps.any (fun p => p.1.isNone) = true := e3
          simp only [law_shut, e4, Bool.not_true, Bool.or_false, Bool.false_and, Bool.and_false] at this
          exact this
        | false =>
          walk_at "go"
          exact hN _ _ ⟨rfl, rfl, ps, e, of_decide_eq_true e2, e3⟩
  · obtain ⟨rfl, rfl, ps, e, e2, e3⟩ := hw
    rw [e] at k
    obtain ⟨rfl, hin⟩ := thing_pairs e
    have hpl : ps.length ≤ 2000 := by cases h with | lst h1 h2 => rw [List.length_map] at h1; exact h1
    walk_at "go"
    refine is_shut_ok M1 M2 hs hI1 hI2 hin (by omega) fun C' hK => ?_
    have := k C' hK
    simp only [law_shut, e3, decide_eq_true e2, Bool.not_false, Bool.or_true, Bool.true_and] at this
    exact this
theorem eqX_self {n : Nat} {ds : List D} (h : ∀ d ∈ ds, Tq n d) (hn : n ≤ 60) (k : P (.bl true) C) : aEqX false (.lst ds) (.lst ds) C P := by
  have := Whole.lsts (us := ds) (ws := ds) (e := fun _ => true) rfl fun j h1 _ => EqD.up (eqD_self (h _ (List.getElem_mem h1))) 60 (by omega)
  rw [all_yes] at this
  exact g_eqXw this k
theorem pdD_two {d1 d2 : D} (h1 : IsM C d1 E1 R1) (h2 : IsM C d2 E2 R2) : pdD C 4 (.tup [d1, d2]) = some (.tuple [pdM E1 R1, pdM E2 R2]) := by
  show (mapPd (pdD C 3) [d1, d2]).map PyData.tuple = _
  rw [mapPd_of [d1, d2] [pdM E1 R1, pdM E2 R2] rfl fun i d x g1 g2 => ?_]
  · rfl
  · match i with
    | 0 => cases g1; cases g2; exact pdD_M h1
    | 1 => cases g1; cases g2; exact pdD_M h2
    | i + 2 => simp at g1
theorem shaped_two (E1 E2 : List Bool) (R1 R2 : List (List (Option Nat))) : SeqAt.shaped (.tuple [pdM E1 R1, pdM E2 R2]) = true ∧ PyData.eqv (.tuple [pdM E1 R1, pdM E2 R2]) (.tuple [pdM E1 R1, pdM E2 R2]) = true := by
  have hk : okD (.tup [machD E1 R1, machD E2 R2]) 4 = true := okD_tup fun d hd => by
    simp only [List.mem_cons, List.not_mem_nil, or_false] at hd
    rcases hd with rfl | rfl
    · exact okD_mach _ _
    · exact okD_mach _ _
  obtain ⟨x, h1, h2, h3⟩ := okD_shaped hk (by omega)
  have e : (D.tup [machD E1 R1, machD E2 R2]).pd = some (.tuple [pdM E1 R1, pdM E2 R2]) := by
    show (pdL [machD E1 R1, machD E2 R2]).map PyData.tuple = _
    rw [show pdL [machD E1 R1, machD E2 R2] = some [pdM E1 R1, pdM E2 R2] by
      show (match (machD E1 R1).pd, pdL [machD E2 R2] with | some x, some xs => some (x :: xs) | _, _ => none) = _
      rw [pd_mach]
      show (match some (pdM E1 R1), (match (machD E2 R2).pd, (some [] : Option (List PyData)) with | some x, some xs => some (x :: xs) | _, _ => none) with | some x, some xs => some (x :: xs) | _, _ => none) = _
      rw [pd_mach]]
    rfl
  rw [e] at h1
  cases h1
  exact ⟨h2, h3⟩
theorem asked_ok (M1 : Mach sg E1 R1) (M2 : Mach sg E2 R2) (hs : sg ≤ 12) {a1 g1 a2 g2 : Addr} {q1 q2 : List Addr} (hI1 : MC C d1 E1 R1 a1 g1 q1) (hI2 : MC C d2 E2 R2 a2 g2 q2) {n : Nat} {ds : List D} (h : ∀ d ∈ ds, Tq n d) (hl : ds.length ≤ 2000) (hn : n ≤ 50)
    (k : ∀ C', AL.Keep C C' → P (.bl true) C') : s_law_asked [d1, d2, .lst ds] C P := by
  have hT : Tq (n + 1) (.lst ds) := .lst hl h
  unfold s_law_asked a_law_asked
  walk_at "go"
  refine copied_ok M1 hI1 ?_
  walk_at "go"
  refine copied_ok M2 hI2 ?_
  walk_at "go"
  refine alike_ok M1 M2 hs hI1.isM hI2.isM hT fun C1 hK1 => ?_
  walk_at "go"
  refine within_ok M1 M2 hs (hI1.isM.keep hK1) (hI2.isM.keep hK1) hT fun C2 hK2 => ?_
  have hK2 := hK1.trans hK2
  walk_at "go"
  refine g_kFor (fun i st C' => AL.Keep C C' ∧ ∃ x5 x6 : Option D, st = [some d1, some d2, some (.lst ds), some (.tup [machD E1 R1, machD E2 R2]), some (.lst ds), x5, x6]) ⟨hK2, _, _, rfl⟩ (fun i y st C' hi hw => ?_) (fun st C' hw => ?_)
  · clear hK1 hK2
    obtain ⟨hK, x5, x6, rfl⟩ := hw
    obtain ⟨b, rfl⟩ : ∃ b : Bool, y = .tup [.bl b, .bl (holdB E1 E2 R1 R2 sg b (.lst ds))] := by
      match i, hi with
      | 0, hi => cases hi; exact ⟨true, rfl⟩
      | 1, hi => cases hi; exact ⟨false, rfl⟩
      | i + 2, hi => simp at hi
    have hk : ∀ (C2 : AH) (K : D → AH → Prop), AL.Keep C' C2 → True := fun _ _ _ => trivial
    walk_at "go"
    refine g_ifFC (Z := fun X => AL.Keep C' X) (fun K hK2 => ?_) fun C2 hK2 => ?_
    · walk_at "go"
      refine law_hold_ok M1 M2 hs (hI1.isM.keep hK) (hI2.isM.keep hK) hT fun C2 hK3 => ?_
      walk_at "go"
      rw [show (!decide (holdB E1 E2 R1 R2 sg b (.lst ds) = holdB E1 E2 R1 R2 sg b (.lst ds))) = false by simp]
      exact hK2 C2 hK3
    walk_at "go"
    exact ⟨hK.trans hK2, _, _, rfl⟩
  · obtain ⟨hK, x5, x6, rfl⟩ := hw
    walk_at "go"
    refine eqX_self h (by omega) ?_
    refine g_kAnd (fun _ => ?_) fun z => by cases z
    walk_at "go"
    obtain ⟨s1, s2⟩ := shaped_two E1 E2 R1 R2
    refine g_eqXd 4 (pdD_two (hI1.isM.keep hK) (hI2.isM.keep hK)) (pdD_two (.inl rfl) (.inl rfl)) s1 s1 ?_
    rw [s2]
    exact k C' hK
end
end A_k36
namespace A_k36
open PySem L2 AL
section
variable {C : AH} {P : D → AH → Prop}
theorem g_cutTakeT {us : List D} {j : Nat} (h0 : P (.tup (us.take j)) C) : aCut (.tup us) none (some (j : Int)) C P := by
  show P (.tup (cutD us none (some (j : Int)))) C
  rw [cutD_take]; exact h0
theorem tq_oD (n : Nat) (o : Option Nat) : Tq n (oD o) := by cases o <;> first | exact .non _ | exact .int _ _
theorem tq_pD (n : Nat) (p : OP) : Tq (n + 1) (pD p) := .tup (by simp) fun d hd => by
  simp only [List.mem_cons, List.not_mem_nil, or_false] at hd
  rcases hd with rfl | rfl <;> exact tq_oD _ _
theorem odd_ok {p : OP} {way size : Nat} (hw : way < 16) (hsz : size ≤ 1000) (k : ∀ x, Tq 3 x → P x C) : s_law_odd [pD p, .int (way : Nat), .int (size : Nat)] C P := by
  obtain ⟨o1, o2⟩ := p
  unfold s_law_odd a_law_odd pD
  walk_at "go"
  refine g_addT (by simp [sizeLine]) ?_
  walk_at "go"
  refine g_addL (by simp [sizeLine]) ?_
  walk_at "go"
  unfold aDict0F
  walk_at "go"
  refine g_cutTakeT (j := 1) ?_
  walk_at "go"
  refine ⟨by omega, by omega, by simp, ?_⟩
  walk_at "go"
  refine g_addL (by simp [sizeLine]) ?_
  walk_at "go"
  generalize hus : ([_, _, _, _, _, _] ++ [_, _, _, _, _, _, _] ++ [_, _, _] : List D) = us
  have hlen : us.length = 16 := by rw [← hus]; rfl
  have hall : ∀ x ∈ us, Tq 3 x := by
    rw [← hus]
    intro x hx
    have h0 := fun n o => tq_oD n o
    have t2 : ∀ (n : Nat) (a b : D), Tq n a → Tq n b → Tq (n + 1) (.tup [a, b]) := fun n a b ha hb => .tup (by simp) fun d hd => by
      simp only [List.mem_cons, List.not_mem_nil, or_false] at hd
      rcases hd with rfl | rfl <;> assumption
    simp only [List.cons_append, List.nil_append, List.mem_cons, List.not_mem_nil, or_false] at hx
    rcases hx with rfl | rfl | rfl | rfl | rfl | rfl | rfl | rfl | rfl | rfl | rfl | rfl | rfl | rfl | rfl | rfl
    · exact .lst (by simp) fun d hd => by
        simp only [List.mem_cons, List.not_mem_nil, or_false] at hd
        rcases hd with rfl | rfl <;> exact tq_oD _ _
    · exact .tup (by simp) fun d hd => by rw [List.mem_singleton.mp hd]; exact tq_oD _ _
    · exact .tup (by simp) fun d hd => by
        simp only [List.mem_cons, List.not_mem_nil, or_false] at hd
        rcases hd with rfl | rfl | rfl <;> first | exact tq_oD _ _ | exact .int _ _
    · exact t2 _ _ _ (.int _ _) (tq_oD _ _)
    · exact t2 _ _ _ (.int _ _) (tq_oD _ _)
    · exact t2 _ _ _ (.bl _ _) (tq_oD _ _)
    · exact t2 _ _ _ (.str _ _) (tq_oD _ _)
    · exact t2 _ _ _ (tq_oD _ _) (.int _ _)
    · exact t2 _ _ _ (tq_oD _ _) (.int _ _)
    · exact t2 _ _ _ (tq_oD _ _) (.bl _ _)
    · exact .non _
    · exact .str _ _
    · exact .int _ _
    · exact t2 _ _ _ (.lst (by simp) fun d hd => by rw [List.mem_singleton.mp hd]; exact tq_oD _ _) (tq_oD _ _)
    · exact t2 _ _ _ (tq_oD _ _) (.dk _)
    · exact .tup (by simp) fun d hd => by
        have : d = oD o1 := by simpa using hd
        rw [this]; exact tq_oD _ _
  clear hus
  have hwl : way < us.length := by omega
  exact g_ixL (atI_nat' (List.getElem?_eq_getElem hwl)) (k _ (hall _ (List.getElem_mem hwl)))
theorem turned_ok {n : Nat} {x : D} (h : Tq n x) (k : ∀ y, Tq n y → P y C) : s_law_turned [x] C P := by
  unfold s_law_turned a_law_turned
  walk_at "go"
  refine g_ifS ?_
  walk_at "go"
  refine g_kTupD h ?_
  cases e : isTupD x with
  | false =>
    walk_at "go"
    exact k x h
  | true =>
    obtain ⟨us, rfl⟩ := tup_inv e
    walk_at "go"
    refine g_revT (k _ ?_)
    cases h with
    | tup h1 h2 => exact .tup (by simpa using h1) fun d hd => h2 d (by simpa using hd)
theorem mixed_ok {p : Addr} {n : Nat} {ps : List OP} (hl : ps.length ≤ 20) (hne : ps ≠ []) (hp : Pen (n + 60) C p) (k : ∀ (qs : List OP) C', qs.length ≤ 40 → qs ≠ [] → Pen n C' p → Oth p C C' → P (.lst (qs.map pD)) C') : s_law_mixed [.ce p, .lst (ps.map pD)] C P := by
  unfold s_law_mixed a_law_mixed
  walk_at "go"
  intro g hg
  have hpg : p ≠ g := by obtain ⟨_, h, _⟩ := hp; exact ne_cell h hg
  have hP := hp.other (c := .lst []) hpg
  have hO := (Oth.refl p C).put (c := .lst []) hg
  have hCg : put C g (.lst []) g = some (.lst (([] : List OP).map pD)) := put_same
  generalize put C g (.lst []) = C1 at hP hO hCg ⊢
  walk_at "go"
  refine g_kForL (fun i st C' => ∃ (qs : List OP) (x3 : Option D), i ≤ qs.length ∧ qs.length ≤ 2 * i ∧ C' g = some (.lst (qs.map pD)) ∧ Pen (n + 2 * (20 - i)) C' p ∧ Oth p C C' ∧ st = [some (.ce p), some (.lst (ps.map pD)), some (.ce g), x3]) ⟨[], none, Nat.le_refl _, Nat.le_refl _, hCg, hP.less, hO, rfl⟩ (fun i y st C' hi hw => ?_) (fun st C' hw => ?_)
  · clear hP hO hCg
    obtain ⟨qs, x3, h1, h2, hCg, hP, hO, rfl⟩ := hw
    rw [List.getElem?_map] at hi
    obtain ⟨q, hq, rfl⟩ := Option.map_eq_some_iff.mp hi
    have hil := (List.getElem?_eq_some_iff.mp hq).1
    walk_at "go"
    rw [List.length_map, show ((qs.length : Nat) : Int) + 1 = ((qs.length + 1 : Nat) : Int) by omega]
    refine draw_ok (n := n + 2 * (20 - (i + 1)) + 1) hP.less (by omega) (by omega) fun c b hc hb => ?_
    have hP := pen_put (C := C') (p := p) hc
    have hO := hO.pen (c := c)
    have hCg := put_other (d := c) hpg.symm hCg
    generalize put C' p c = C2 at hP hO hCg ⊢
    walk_at "go"
    refine g_insert hCg (by rw [List.length_map]; simp only [sizeLine]; omega) (by omega) ?_
    have e : (qs.map pD).take b ++ [pD q] ++ (qs.map pD).drop b = (qs.take b ++ [q] ++ qs.drop b).map pD := by simp
    rw [e]
    have hl3 : (qs.take b ++ [q] ++ qs.drop b).length = qs.length + 1 := by simp; omega
    generalize qs.take b ++ [q] ++ qs.drop b = rs at hl3 ⊢
    have hP := hP.other (c := .lst (rs.map pD)) hpg
    have hO := hO.put (c := .lst (rs.map pD)) hg
    have hCg : put C2 g (.lst (rs.map pD)) g = some (.lst (rs.map pD)) := put_same
    generalize put C2 g (.lst (rs.map pD)) = C3 at hP hO hCg ⊢
    refine g_ifS ?_
    walk_at "go"
    refine draw_ok (n := n + 2 * (20 - (i + 1))) (m := 6) hP (by omega) (by omega) fun c b hc hb => ?_
    have hP := pen_put (C := C3) (p := p) hc
    have hO := hO.pen (c := c)
    have hCg := put_other (d := c) hpg.symm hCg
    generalize put C3 p c = C4 at hP hO hCg ⊢
    walk_at "go"
    refine g_iteD (fun _ => ?_) fun _ => ?_
    · walk_at "go"
      refine g_append hCg (by rw [List.length_map]; simp only [sizeLine]; omega) ?_
      walk_at "go"
      exact ⟨rs ++ [q], _, by simp; omega, by simp; omega, by rw [put_same]; simp, hP.other hpg, hO.put hg, rfl⟩
    · walk_at "go"
      exact ⟨rs, _, by omega, by omega, hCg, hP, hO, rfl⟩
  · clear hP hO hCg
    obtain ⟨qs, x3, h1, h2, hCg, hP, hO, rfl⟩ := hw
    rw [List.length_map] at h1 h2
    refine g_frzL rfl hCg ?_
    walk_at "go"
    refine k qs _ (by omega) (fun z => ?_) (hP.otherD hpg).less (hO.del hg)
    subst z
    have : 0 < ps.length := List.length_pos_iff.mpr hne
    have h3 : ps.length ≤ 0 := h1
    omega
end
end A_k36
namespace A_k36
open PySem L2 AL
theorem ixN_nat {n j : Nat} (h : j < n) : ixN n (j : Int) = some j := by
  unfold ixN
  rw [if_pos (by omega), if_pos (by omega)]
  simp
theorem Mach.flip {sg : Nat} {E : List Bool} {R : List (List (Option Nat))} (M : Mach sg E R) (s : Nat) (b : Bool) : Mach sg (E.set s b) R := ⟨by rw [List.length_set]; exact M.len, by rw [List.length_set]; exact M.pos, by rw [List.length_set]; exact M.most, M.row, fun r hr t ht => by rw [List.length_set]; exact M.go r hr t ht⟩
theorem mem_set' {α : Type} {l : List α} {i : Nat} {x y : α} (h : y ∈ l.set i x) : y ∈ l ∨ y = x := by
  rcases List.mem_or_eq_of_mem_set h with q | q
  · exact .inl q
  · exact .inr q
theorem Mach.turn {sg : Nat} {E : List Bool} {R : List (List (Option Nat))} (M : Mach sg E R) {s x : Nat} {row : List (Option Nat)} (hr : R[s]? = some row) {o : Option Nat} (ho : inn E.length o) : Mach sg E (R.set s (row.set x o)) := by
  have hm := List.mem_of_getElem? hr
  refine ⟨by rw [List.length_set]; exact M.len, M.pos, M.most, fun r h => ?_, fun r h t ht => ?_⟩
  · rcases mem_set' h with q | rfl
    · exact M.row r q
    · rw [List.length_set]; exact M.row _ hm
  · rcases mem_set' h with q | rfl
    · exact M.go r q t ht
    · rcases mem_set' ht with q | q
      · exact M.go _ hm t q
      · exact ho t q.symm
theorem MC.flip {C : AH} {d : D} {E : List Bool} {R : List (List (Option Nat))} {pe pg : Addr} {qs : List Addr} (h : MC C d E R pe pg qs) (hn : (pe :: pg :: qs).Nodup) (E' : List Bool) : MC (put C pe (.lst (E'.map .bl))) d E' R pe pg qs := by
  obtain ⟨h1, h2, h3, h4⟩ := h
  have hne : ∀ a ∈ pg :: qs, a ≠ pe := fun a ha z => (List.nodup_cons.mp hn).1 (z ▸ ha)
  exact ⟨h1, put_same, by rw [put_ne (hne pg (by simp))]; exact h3, Rws.oth h4 fun q hq => put_ne (hne q (by simp [hq]))⟩
theorem MC.turn {C : AH} {d : D} {E : List Bool} {R : List (List (Option Nat))} {pe pg : Addr} {qs : List Addr} (h : MC C d E R pe pg qs) (hn : (pe :: pg :: qs).Nodup) {s : Nat} {q : Addr} (hq : qs[s]? = some q) (row : List (Option Nat)) : MC (put C q (.lst (row.map oD))) d E (R.set s row) pe pg qs := by
  obtain ⟨h1, h2, h3, h4, h5⟩ := h
  have hm := List.mem_of_getElem? hq
  obtain ⟨n1, n2⟩ := List.nodup_cons.mp hn
  obtain ⟨n3, n4⟩ := List.nodup_cons.mp n2
  have e1 : pe ≠ q := fun z => n1 (by rw [z]; simp [hm])
  have e2 : pg ≠ q := fun z => n3 (by rw [z]; exact hm)
  refine ⟨h1, by rw [put_ne e1]; exact h2, by rw [put_ne e2]; exact h3, by rw [List.length_set]; exact h4, fun i q' r g1 g2 => ?_⟩
  have hi : i < qs.length := (List.getElem?_eq_some_iff.mp g1).1
  have hs : s < qs.length := (List.getElem?_eq_some_iff.mp hq).1
  by_cases e : i = s
  · subst e
    rw [hq] at g1
    cases g1
    rw [List.getElem?_set_self (by omega)] at g2
    cases g2
    exact put_same
  · rw [List.getElem?_set_ne (fun z => e z.symm)] at g2
    have : q' ≠ q := fun z => by
      subst z
      have a1 := (List.getElem?_eq_some_iff.mp g1).2
      have a2 := (List.getElem?_eq_some_iff.mp hq).2
      exact e ((List.getElem_inj n4).mp (a1.trans a2.symm))
    rw [put_ne this]
    exact h5 i q' r g1 g2
section
variable {sg : Nat} {E1 E2 : List Bool} {R1 R2 : List (List (Option Nat))} {C : AH} {P : D → AH → Prop} {d1 d2 : D}
theorem g_ixPs {ps : List OP} {i : Nat} (hi : i < ps.length) (k : ∀ q ∈ ps, ps[i]? = some q → P (pD q) C) : aIx (.lst (ps.map pD)) (.int (i : Nat)) C P :=
  g_ixL (atI_nat' (by rw [List.getElem?_map, List.getElem?_eq_getElem hi]; rfl)) (k _ (List.getElem_mem hi) (List.getElem?_eq_getElem hi))
theorem tq_map (ps : List OP) : ∀ d ∈ ps.map pD, Tq 3 d := fun d hd => by
  obtain ⟨p, _, rfl⟩ := List.mem_map.mp hd
  exact tq_pD 2 p
theorem neP {p q : OP} (k : P (.bl (!decide (p = q))) C) : aEqX true (pD p) (pD q) C P := by
  refine g_neXd 0 (pd_pD p) (pd_pD q) (shaped_pP p) (shaped_pP q) ?_
  rw [eqv_pP]; exact k
theorem g_cutDropL {us : List D} {j : Nat} (h0 : P (.lst (us.drop j)) C) : aCut (.lst us) (some (j : Int)) none C P := by
  show P (.lst (cutD us (some (j : Int)) none)) C
  rw [cutD_drop]; exact h0
theorem bent_ok (M1 : Mach sg E1 R1) (M2 : Mach sg E2 R2) (hl1 : E1.length ≤ 20) (hl2 : E2.length ≤ 20) (hs1 : 0 < sg) (hs : sg ≤ 12) {a1 g1 a2 g2 : Addr} {q1 q2 : List Addr} (hI1 : MC C d1 E1 R1 a1 g1 q1) (hI2 : MC C d2 E2 R2 a2 g2 q2) (hn1 : (a1 :: g1 :: q1).Nodup) (hn2 : (a2 :: g2 :: q2).Nodup) (hdd : ∀ x ∈ a1 :: g1 :: q1, x ∉ a2 :: g2 :: q2)
    {p : Addr} (hp1 : p ∉ a1 :: g1 :: q1) (hp2 : p ∉ a2 :: g2 :: q2) {n : Nat} {ps : List OP} (hl : ps.length ≤ 40) (hne : ps ≠ []) (hp : Pen (n + 60) C p)
    (k : ∀ ds C' E1' R1' E2' R2', Mach sg E1' R1' → Mach sg E2' R2' → MC C' d1 E1' R1' a1 g1 q1 → MC C' d2 E2' R2' a2 g2 q2 → (∀ d ∈ ds, Tq 3 d) → ds.length ≤ 100 → P (.lst ds) C') : s_law_bent [.ce p, d1, d2, .lst (ps.map pD)] C P := by
  have hpl : 0 < ps.length := List.length_pos_iff.mpr hne
  -- what is told where the machines stay
  have k1 : ∀ ds C', Oth p C C' → (∀ d ∈ ds, Tq 3 d) → ds.length ≤ 100 → P (.lst ds) C' := fun ds C' hO h1 h2 => k ds C' E1 R1 E2 R2 M1 M2 (hI1.oth hp1 hO) (hI2.oth hp2 hO) h1 h2
  unfold s_law_bent a_law_bent
  walk_at "go"
  refine draw_ok (n := n + 59) (m := 10) hp (by omega) (by omega) fun c way hc hway => ?_
  have hP := pen_put (C := C) (p := p) hc
  have hO := (Oth.refl p C).pen (c := c)
  generalize put C p c = C1 at hP hO ⊢
  walk_at "go"
  rw [List.length_map]
  refine draw_ok (n := n + 58) hP hpl (by omega) fun c at_ hc hat => ?_
  have hP := pen_put (C := C1) (p := p) hc
  have hO := hO.pen (c := c)
  generalize put C1 p c = C2 at hP hO ⊢
  walk_at "go"
  refine len0' (hI1.oth hp1 hO).isM ?_
  walk_at "go"
  refine g_ifJ (fun st C' => C' = C2 ∧ st = [some (.ce p), some d1, some d2, some (.lst (ps.map pD)), some (.int (way : Nat)), some (.int (at_ : Nat)), some (.int (E1.length : Nat)), none, none, none, none, none, none] ∧ 2 ≤ way) (fun N hN => ?_) (fun st C' hw => ?_)
  · refine g_ifS ?_
    walk_at "go"
    refine g_iteD (fun h => ?_) (fun h => ?_)
    · walk_at "go"
      refine g_ixPs hat fun q _ _ => ?_
      walk_at "go"
      refine g_kLc (fun i acc C' => C' = C2 ∧ ∃ qs : List OP, acc = qs.map pD ∧ qs.length ≤ i) (by rw [List.length_map]; simp only [sizeLine]; omega) ⟨rfl, [], rfl, Nat.le_refl _⟩ (fun i y acc C' hi hw => ?_) (fun acc C' hw => ?_)
      · obtain ⟨rfl, qs, rfl, hql⟩ := hw
        rw [List.getElem?_map] at hi
        obtain ⟨r, hr, rfl⟩ := Option.map_eq_some_iff.mp hi
        walk_at "go"
        refine neP ?_
        walk_at "go"
        refine g_ite (fun _ => ?_) fun _ => ?_
        · walk_at "go"
          exact ⟨rfl, qs ++ [r], by simp, by simp; omega⟩
        · exact ⟨rfl, qs, rfl, by omega⟩
      · obtain ⟨rfl, qs, rfl, hql⟩ := hw
        rw [List.length_map] at hql
        exact k1 _ _ hO (tq_map qs) (by rw [List.length_map]; omega)
    · walk_at "go"
      exact hN _ _ ⟨rfl, rfl, by omega⟩
  obtain ⟨rfl, rfl, hway2⟩ := hw
  -- a pair put in
  have putin : ∀ (x : D) (j : Nat), Tq 3 x → (∀ d ∈ (ps.map pD).take at_ ++ [x] ++ (ps.map pD).drop j, Tq 3 d) ∧ ((ps.map pD).take at_ ++ [x] ++ (ps.map pD).drop j).length ≤ 100 ∧ ((ps.map pD).take at_).length + [x].length ≤ sizeLine ∧ ((ps.map pD).take at_ ++ [x]).length + ((ps.map pD).drop j).length ≤ sizeLine := fun x j hx => by
    refine ⟨fun d hd => ?_, ?_, ?_, ?_⟩
    · rcases List.mem_append.mp hd with h | h
      · rcases List.mem_append.mp h with h | h
        · exact tq_map ps d (List.mem_of_mem_take h)
        · rw [List.mem_singleton.mp h]; exact hx
      · exact tq_map ps d (List.mem_of_mem_drop h)
    all_goals simp only [sizeLine, List.length_append, List.length_take, List.length_drop, List.length_map, List.length_singleton]; omega
  walk_at "go"
  refine g_ifJ (fun st C2 => C2 = C' ∧ st = [some (.ce p), some d1, some d2, some (.lst (ps.map pD)), some (.int (way : Nat)), some (.int (at_ : Nat)), some (.int (E1.length : Nat)), none, none, none, none, none, none] ∧ 4 ≤ way) (fun N hN => ?_) (fun st C2 hw => ?_)
  · refine g_ifS ?_
    walk_at "go"
    refine g_iteD (fun h => ?_) (fun h => ?_)
    · walk_at "go"
      refine g_cutTake ?_
      walk_at "go"
      refine draw_ok (n := n + 57) hP M1.pos (by omega) fun c u hc hu => ?_
      have hP := pen_put (C := C') (p := p) hc
      have hO := hO.pen (c := c)
      generalize put C' p c = C3 at hP hO ⊢
      walk_at "go"
      rw [show (2 : Int) * (E1.length : Int) = ((2 * E1.length : Nat) : Int) by omega]
      have hpos := M1.pos
      refine draw_ok (n := n + 56) hP (by omega) (by omega) fun c v hc hv => ?_
      have hO := hO.pen (c := c)
      generalize put C3 p c = C4 at hO ⊢
      walk_at "go"
      have hx : Tq 3 (.tup [.int (u : Int), .int (v : Int)]) := tq_pD 2 (some u, some v)
      obtain ⟨h1, h2, h3, h4⟩ := putin _ at_ hx
      refine g_addL h3 ?_
      walk_at "go"
      refine g_cutDropL ?_
      refine g_addL h4 ?_
      exact k1 _ _ hO h1 h2
    · walk_at "go"
      exact hN _ _ ⟨rfl, rfl, by omega⟩
  obtain ⟨rfl, rfl, hway3⟩ := hw
  walk_at "go"
  refine g_ifJ (fun st C' => C' = C2 ∧ st = [some (.ce p), some d1, some d2, some (.lst (ps.map pD)), some (.int (way : Nat)), some (.int (at_ : Nat)), some (.int (E1.length : Nat)), none, none, none, none, none, none] ∧ 5 ≤ way) (fun N hN => ?_) (fun st C' hw => ?_)
  · refine g_ifS ?_
    walk_at "go"
    refine g_iteD (fun h => ?_) (fun h => ?_)
    · walk_at "go"
      rw [show (2 : Int) * (E1.length : Int) = ((2 * E1.length : Nat) : Int) by omega]
      have hpos := M1.pos
      refine draw_ok (n := n + 57) hP (by omega) (by omega) fun c u hc hu => ?_
      have hP := pen_put (C := C2) (p := p) hc
      have hO := hO.pen (c := c)
      generalize put C2 p c = C3 at hP hO ⊢
      walk_at "go"
      refine draw_ok (n := n + 56) hP (by omega) (by omega) fun c v hc hv => ?_
      have hP := pen_put (C := C3) (p := p) hc
      have hO := hO.pen (c := c)
      generalize put C3 p c = C4 at hP hO ⊢
      walk_at "go"
      refine draw_ok (n := n + 55) (m := 3) hP (by omega) (by omega) fun c w hc hw => ?_
      have hO := hO.pen (c := c)
      generalize put C4 p c = C5 at hO ⊢
      have hpick : ∀ (R : D → AH → Prop), (∀ x, Tq 3 x → R x C5) → aIx (.lst [.tup [.non, .int (u : Int)], .tup [.int (v : Int), .non], .tup [.non, .non]]) (.int (w : Nat)) C5 R := fun R hR => by
        have : w = 0 ∨ w = 1 ∨ w = 2 := by omega
        rcases this with rfl | rfl | rfl
        · exact g_ixL rfl (hR _ (tq_pD 2 (none, some u)))
        · exact g_ixL rfl (hR _ (tq_pD 2 (some v, none)))
        · exact g_ixL rfl (hR _ (tq_pD 2 (none, none)))
      walk_at "go"
      refine hpick _ fun x hx => ?_
      walk_at "go"
      refine g_cutTake ?_
      walk_at "go"
      obtain ⟨h1, h2, h3, h4⟩ := putin _ at_ hx
      refine g_addL h3 ?_
      walk_at "go"
      refine g_cutDropL ?_
      refine g_addL h4 ?_
      exact k1 _ _ hO h1 h2
    · walk_at "go"
      exact hN _ _ ⟨rfl, rfl, by omega⟩
  obtain ⟨rfl, rfl, hway4⟩ := hw
  -- one of both machines
  have pick : ∀ (b : Nat) (C3 : AH) (K : D → AH → Prop), b < 2 → (∀ (w : Bool), K (if w then d1 else d2) C3) → aIx (.lst [d1, d2]) (.int (b : Nat)) C3 K := fun b C3 K hb hK => by
    have : b = 0 ∨ b = 1 := by omega
    rcases this with rfl | rfl
    · exact g_ixL rfl (hK true)
    · exact g_ixL rfl (hK false)
  have mch : ∀ (w : Bool) (C3 : AH), Oth p C C3 → ∃ dX EX RX aX gX qX, (if w then d1 else d2) = dX ∧ Mach sg EX RX ∧ EX.length ≤ 20 ∧ MC C3 dX EX RX aX gX qX ∧ (aX :: gX :: qX).Nodup ∧ p ∉ aX :: gX :: qX ∧
      ∀ (C4 : AH) (E' : List Bool) (R' : List (List (Option Nat))), Mach sg E' R' → MC C4 dX E' R' aX gX qX → (∀ x, x ∉ aX :: gX :: qX → x ≠ p → C4 x = C3 x) → ∀ ds : List D, (∀ d ∈ ds, Tq 3 d) → ds.length ≤ 100 → ∀ C5, Oth p C4 C5 → P (.lst ds) C5 := fun w C3 hO => by
    have g1 := hI1.oth hp1 hO
    have g2 := hI2.oth hp2 hO
    cases w with
    | true =>
      refine ⟨d1, E1, R1, _, _, _, rfl, M1, hl1, g1, hn1, hp1, fun C4 E' R' M' hM' hx ds t1 t2 C5 hO5 => ?_⟩
      exact k ds C5 E' R' E2 R2 M' M2 (hM'.oth hp1 hO5) ((g2.same fun a ha => hx a (fun z => hdd a z ha) fun z => hp2 (z ▸ ha)).oth hp2 hO5) t1 t2
    | false =>
      refine ⟨d2, E2, R2, _, _, _, rfl, M2, hl2, g2, hn2, hp2, fun C4 E' R' M' hM' hx ds t1 t2 C5 hO5 => ?_⟩
      exact k ds C5 E1 R1 E' R' M1 M' ((g1.same fun a ha => hx a (fun z => hdd a ha z) fun z => hp1 (z ▸ ha)).oth hp1 hO5) (hM'.oth hp2 hO5) t1 t2
  walk_at "go"
  refine g_ifJ (fun st C2 => ∃ x9 x10 : Option D, st = [some (.ce p), some d1, some d2, some (.lst (ps.map pD)), some (.int (way : Nat)), some (.int (at_ : Nat)), some (.int (E1.length : Nat)), none, none, x9, x10, none, none] ∧ ((way = 5 ∧ ∀ ds : List D, (∀ d ∈ ds, Tq 3 d) → ds.length ≤ 100 → P (.lst ds) C2) ∨ (5 < way ∧ C2 = C'))) (fun N hN => ?_) (fun st C2 hw => ?_)
  · refine g_ifS ?_
    walk_at "go"
    refine g_iteD (fun h => ?_) (fun h => ?_)
    · walk_at "go"
      refine draw_ok (n := n + 57) (m := 2) hP (by omega) (by omega) fun c b hc hb => ?_
      have hP := pen_put (C := C') (p := p) hc
      have hO := hO.pen (c := c)
      generalize put C' p c = C3 at hP hO ⊢
      walk_at "go"
      refine pick b C3 _ hb fun w => ?_
      obtain ⟨dX, EX, RX, aX, gX, qX, eX, MX, hlX, hIX, hnX, hpX, hfin⟩ := mch w C3 hO
      rw [eX]
      walk_at "go"
      refine len0' hIX.isM ?_
      walk_at "go"
      refine draw_ok (n := n + 56) hP MX.pos (by omega) fun c s hc hs => ?_
      have hO2 := (Oth.refl p C3).pen (c := c)
      have hIX2 := hIX.oth hpX hO2
      have hsame : ∀ x, x ∉ aX :: gX :: qX → x ≠ p → put C3 p c x = C3 x := fun x _ hx => put_ne hx
      generalize put C3 p c = C4 at hIX2 hsame ⊢
      obtain ⟨hdX, i2, i3, i4⟩ := id hIX2
      subst hdX
      walk_at "go"
      refine get_end hs ?_
      walk_at "go"
      refine g_kSet i2 (k := s) (ixN_nat (by rw [List.length_map]; exact hs)) ?_
      rw [← List.map_set]
      refine hN _ _ ⟨_, _, rfl, .inl ⟨by omega, fun ds t1 t2 => ?_⟩⟩
      refine hfin _ _ _ (Mach.flip MX s _) (hIX2.flip hnX _) (fun x hx hxp => ?_) ds t1 t2 _ (Oth.refl p _)
      rw [put_ne (fun z => hx (by rw [z]; simp))]
      exact hsame x hx hxp
    · walk_at "go"
      exact hN _ _ ⟨_, _, rfl, .inr ⟨by omega, rfl⟩⟩
  obtain ⟨x9, x10, rfl, hw⟩ := hw
  walk_at "go"
  refine g_ifJ (fun st C3 => ∃ x9 x10 x11 : Option D, st = [some (.ce p), some d1, some d2, some (.lst (ps.map pD)), some (.int (way : Nat)), some (.int (at_ : Nat)), some (.int (E1.length : Nat)), none, none, x9, x10, x11, none] ∧ ((way ≠ 7 ∧ ∀ ds : List D, (∀ d ∈ ds, Tq 3 d) → ds.length ≤ 100 → P (.lst ds) C3) ∨ (6 < way ∧ C3 = C'))) (fun N hN => ?_) (fun st C3 hw => ?_)
  · refine g_ifS ?_
    walk_at "go"
    refine g_iteD (fun h => ?_) (fun h => ?_)
    · rcases hw with ⟨h5, _⟩ | ⟨_, rfl⟩
      · omega
      walk_at "go"
      refine draw_ok (n := n + 57) (m := 2) hP (by omega) (by omega) fun c b hc hb => ?_
      have hP := pen_put (C := C2) (p := p) hc
      have hO := hO.pen (c := c)
      generalize put C2 p c = C3 at hP hO ⊢
      walk_at "go"
      refine pick b C3 _ hb fun w => ?_
      obtain ⟨dX, EX, RX, aX, gX, qX, eX, MX, hlX, hIX, hnX, hpX, hfin⟩ := mch w C3 hO
      rw [eX]
      have hleX := MX.len
      have hposX := MX.pos
      obtain ⟨hdX, i2, i3, i4⟩ := id hIX
      subst hdX
      walk_at "go"
      rw [List.length_map]
      refine draw_ok (n := n + 56) hP hposX (by omega) fun c s hc hs => ?_
      have hP := pen_put (C := C3) (p := p) hc
      have hO2 := (Oth.refl p C3).pen (c := c)
      have hsame : ∀ x, x ∉ aX :: gX :: qX → x ≠ p → put C3 p c x = C3 x := fun x _ hx => put_ne hx
      clear i2 i3 i4
      have hIX2 := hIX.oth hpX hO2
      generalize put C3 p c = C4 at hP hO2 hsame hIX2 ⊢
      obtain ⟨_, i2, i3, i4⟩ := id hIX2
      refine g_ixC i3 ?_
      have hsq : s < qX.length := by rw [i4.1]; omega
      refine g_ixL (d := .ce qX[s]) (atI_nat' (by rw [List.getElem?_map, List.getElem?_eq_getElem hsq]; rfl)) ?_
      have hq : qX[s]? = some qX[s] := List.getElem?_eq_getElem hsq
      generalize qX[s] = q at hq ⊢
      have hqm : q ∈ qX := List.mem_of_getElem? hq
      have hrow : RX[s]? = some (RX[s]'(by omega)) := List.getElem?_eq_getElem (by omega)
      have hrl := MX.row _ (List.mem_of_getElem? hrow)
      generalize RX[s]'(by omega) = row at hrow hrl
      have hCq := i4.2 s q row hq hrow
      walk_at "go"
      refine draw_ok (n := n + 55) (m := 3) hP (by omega) (by omega) fun c u hc hu => ?_
      have hP := pen_put (C := C4) (p := p) hc
      have hO2 := hO2.pen (c := c)
      have hsame : ∀ x, x ∉ aX :: gX :: qX → x ≠ p → put C4 p c x = C3 x := fun x h1 hx => by rw [put_ne hx]; exact hsame x h1 hx
      clear i2 i3 i4 hCq hIX2
      have hIX2 := hIX.oth hpX hO2
      generalize put C4 p c = C5 at hP hO2 hsame hIX2 ⊢
      obtain ⟨_, i2, i3, i4⟩ := id hIX2
      walk_at "go"
      rw [List.length_map]
      refine draw_ok (n := n + 54) hP hposX (by omega) fun c v hc hv => ?_
      have hP := pen_put (C := C5) (p := p) hc
      have hO2 := hO2.pen (c := c)
      have hsame : ∀ x, x ∉ aX :: gX :: qX → x ≠ p → put C5 p c x = C3 x := fun x h1 hx => by rw [put_ne hx]; exact hsame x h1 hx
      clear i2 i3 i4 hIX2
      have hIX2 := hIX.oth hpX hO2
      generalize put C5 p c = C6 at hP hO2 hsame hIX2 ⊢
      walk_at "go"
      refine goal_ok hv fun o ho => ?_
      obtain ⟨_, i2, i3, i4⟩ := id hIX2
      have hCq := i4.2 s q row hq hrow
      walk_at "go"
      rw [List.length_map, hrl]
      refine draw_ok (n := n + 53) hP hs1 (by omega) fun c x hc hx => ?_
      have hO2 := hO2.pen (c := c)
      have hsame : ∀ x, x ∉ aX :: gX :: qX → x ≠ p → put C6 p c x = C3 x := fun x h1 hx => by rw [put_ne hx]; exact hsame x h1 hx
      clear i2 i3 i4 hIX2 hCq
      have hIX2 := hIX.oth hpX hO2
      generalize put C6 p c = C7 at hO2 hsame hIX2 ⊢
      obtain ⟨_, i2, i3, i4⟩ := id hIX2
      have hCq := i4.2 s q row hq hrow
      refine g_kSet hCq (k := x) (ixN_nat (by rw [List.length_map, hrl]; exact hx)) ?_
      rw [← List.map_set]
      refine hN _ _ ⟨_, _, _, rfl, .inl ⟨by omega, fun ds t1 t2 => ?_⟩⟩
      refine hfin _ _ _ (Mach.turn MX hrow ho) (hIX2.turn hnX hq _) (fun x hx hxp => ?_) ds t1 t2 _ (Oth.refl p _)
      rw [put_ne (fun z => hx (by rw [z]; simp [hqm]))]
      exact hsame x hx hxp
    · walk_at "go"
      refine hN _ _ ⟨_, _, _, rfl, ?_⟩
      rcases hw with ⟨h5, hw⟩ | ⟨h6, hw⟩
      · exact .inl ⟨by omega, hw⟩
      · exact .inr ⟨by omega, hw⟩
  obtain ⟨x9, x10, x11, rfl, hw⟩ := hw
  walk_at "go"
  refine g_ifS ?_
  walk_at "go"
  refine g_iteD (fun h => ?_) (fun h => ?_)
  · rcases hw with ⟨h5, _⟩ | ⟨_, rfl⟩
    · omega
    walk_at "go"
    refine g_cutTake ?_
    walk_at "go"
    refine g_ixPs hat fun q _ _ => ?_
    walk_at "go"
    refine draw_ok (n := n + 57) (m := 16) hP (by omega) (by omega) fun c u hc hu => ?_
    have hO := hO.pen (c := c)
    generalize put C3 p c = C4 at hO ⊢
    walk_at "go"
    refine odd_ok hu (by omega) fun x hx => ?_
    walk_at "go"
    obtain ⟨h1, h2, h3, h4⟩ := putin x (at_ + 1) hx
    refine g_addL h3 ?_
    walk_at "go"
    rw [show (at_ : Int) + 1 = ((at_ + 1 : Nat) : Int) by omega]
    refine g_cutDropL ?_
    refine g_addL h4 ?_
    exact k1 _ _ hO h1 h2
  · walk_at "go"
    rcases hw with ⟨_, hw⟩ | ⟨_, rfl⟩
    · exact hw _ (tq_map ps) (by rw [List.length_map]; omega)
    · exact k1 _ _ hO (tq_map ps) (by rw [List.length_map]; omega)
end
end A_k36
namespace A_k36
open PySem L2 AL
section
variable {sg : Nat} {E1 E2 : List Bool} {R1 R2 : List (List (Option Nat))} {C : AH} {P : D → AH → Prop} {d1 d2 : D}
theorem g_repLl {ds : List D} {k : Nat} (h1 : ds.length * k ≤ sizeLine) (hk : k ≤ 1000) (h : P (.lst (List.replicate k ds).flatten) C) : aRepL false (.lst ds) (.int (k : Nat)) C P := by
  refine ⟨ds, rfl, by omega, by omega, by rw [Int.toNat_natCast]; exact h1, ?_⟩
  rw [Int.toNat_natCast]
  exact h
theorem holdB_no {w : Bool} {x : D} (h : pairsO E1.length E2.length x = none) : holdB E1 E2 R1 R2 sg w x = false := by unfold holdB; rw [h]
theorem pairs_app (ps qs : List OP) : (ps ++ qs).map pD = ps.map pD ++ qs.map pD := List.map_append
theorem g_notBl {a b : Bool} (h : P (.bl (!decide (a = b))) C) : aNotBl (.bl a) (.bl b) C P := h
/-- one round -/
theorem law_true : ∀ ns : List Int, ns.length ≤ 63 → s_law [.scr ns] (fun _ => none) (fun d _ => d = .bl true) := by
  intro ns hn
  unfold s_law a_law
  walk_at "go"
  refine g_kForR0 (fun i st C => ∃ x1 x2 x3 x4 x5 x6 x7 x8 : Option D, st = [some (.scr ns), x1, x2, x3, x4, x5, x6, x7, x8]) ⟨_, _, _, _, _, _, _, _, rfl⟩ (fun i st C hi hw => ?_) (fun st C hw => ?_)
  · obtain ⟨x1, x2, x3, x4, x5, x6, x7, x8, rfl⟩ := hw
    have hi3 : i < 3 := hi
    walk_at "go"
    refine pen_ok (by omega) fun p c hp hc => ?_
    have hP : Pen 1000000 (put C p c) p := pen_put hc
    generalize put C p c = C1 at hP ⊢
    walk_at "go"
    refine draw_ok (n := 999999) (m := 4) hP (by omega) (by omega) fun c b hc hb => ?_
    have hP := pen_put (C := C1) (p := p) hc
    generalize put C1 p c = C1 at hP ⊢
    have hmost : ∀ (R : D → AH → Prop), (∀ m : Nat, 0 < m → m ≤ 12 → R (.int (m : Nat)) C1) → aIx (.lst [.int 2, .int 3, .int 3, .int 12]) (.int (b : Nat)) C1 R := fun R hR => by
      have : b = 0 ∨ b = 1 ∨ b = 2 ∨ b = 3 := by omega
      rcases this with rfl | rfl | rfl | rfl
      · exact g_ixL rfl (hR 2 (by decide) (by decide))
      · exact g_ixL rfl (hR 3 (by decide) (by decide))
      · exact g_ixL rfl (hR 3 (by decide) (by decide))
      · exact g_ixL rfl (hR 12 (by decide) (by decide))
    walk_at "go"
    refine hmost _ fun m hm1 hm2 => ?_
    walk_at "go"
    refine draw_ok (n := 999998) hP hm1 (by omega) fun c u hc hu => ?_
    have hP := pen_put (C := C1) (p := p) hc
    generalize put C1 p c = C1 at hP ⊢
    walk_at "go"
    rw [show (1 : Int) + (u : Int) = ((u + 1 : Nat) : Int) by omega]
    have hsg : u + 1 ≤ 12 ∧ 0 < u + 1 := by omega
    generalize u + 1 = sg at hsg ⊢
    obtain ⟨hs, hs1⟩ := hsg
    refine machine_ok (n := 990000) (most := 9) (by omega) (by omega) hs hP.less fun E1 R1 C2 d1 a1 g1 q1 M1 hl1 hP2 hO hI1 hn1 hf1 => ?_
    have hp1 : p ∉ a1 :: g1 :: q1 := fun z => by
      obtain ⟨c, h, _⟩ := hP
      rw [hf1 p z] at h; cases h
    clear hP hO
    walk_at "go"
    refine doubled_ok (n := 980000) M1 hl1 hs1 hs hP2.less hI1 hp1 fun E2 R2 C3 d2 a2 g2 q2 M2 hl2 hP3 hO hI2 hn2 hf2 => ?_
    have hp2 : p ∉ a2 :: g2 :: q2 := fun z => by
      obtain ⟨c, h, _⟩ := hP2
      rw [hf2 p z] at h; cases h
    have hdd : ∀ x ∈ a1 :: g1 :: q1, x ∉ a2 :: g2 :: q2 := fun x hx hx2 => by
      obtain ⟨c, h⟩ := hI1.at' x hx
      rw [hf2 x hx2] at h; cases h
    have hI1 := hI1.oth hp1 hO
    clear hP2 hO hf1 hf2
    walk_at "go"
    refine len0' hI1.isM ?_
    walk_at "go"
    refine g_kForR0 (fun j st C4 => C4 = C3 ∧ ∃ (ps : List OP) (x6 : Option D), ps.length = 2 * j ∧ st = [some (.scr ns), some (.int (i : Int)), some (.ce p), some d1, some d2, some (.lst (ps.map pD)), x6, x7, x8]) ⟨rfl, [], _, rfl, rfl⟩ (fun j st C4 hj hw => ?_) (fun st C4 hw => ?_)
    · obtain ⟨rfl, ps, x6, hpl, rfl⟩ := hw
      have hj9 : j < E1.length := hj
      walk_at "go"
      refine g_addL (by rw [List.length_map]; simp only [sizeLine, List.length_cons, List.length_nil]; omega) ?_
      walk_at "go"
      refine ⟨rfl, ps ++ [(some j, some (2 * j)), (some j, some (2 * j + 1))], some (.int (j : Int)), by simp; omega, ?_⟩
      rw [pairs_app]
      rfl
    obtain ⟨rfl, ps, x6, hpl, rfl⟩ := hw
    have hpl : ps.length = 2 * E1.length := hpl
    have hpos := M1.pos
    walk_at "go"
    refine draw_ok (n := 979999) (m := 2) hP3.less (by omega) (by omega) fun c r hc hr => ?_
    have hP := pen_put (C := C4) (p := p) hc
    have hO := (Oth.refl p C4).pen (c := c)
    have hI1 := hI1.oth hp1 hO
    have hI2 := hI2.oth hp2 hO
    clear hP3 hO
    generalize put C4 p c = C5 at hP hI1 hI2 ⊢
    walk_at "go"
    refine g_repLl (by simp only [sizeLine, List.length_cons, List.length_nil]; omega) (by omega) ?_
    have hrep : ∃ qs : List OP, (List.replicate r [D.tup [.non, .non]]).flatten = qs.map pD ∧ qs.length ≤ 1 := by
      have : r = 0 ∨ r = 1 := by omega
      rcases this with rfl | rfl
      · exact ⟨[], rfl, by simp⟩
      · exact ⟨[(none, none)], rfl, by simp⟩
    obtain ⟨qs, hqs, hql⟩ := hrep
    rw [hqs]
    refine g_addL (by rw [List.length_map, List.length_map]; simp only [sizeLine]; omega) ?_
    rw [← pairs_app]
    walk_at "go"
    have hne : ps ++ qs ≠ [] := fun z => by
      have := congrArg List.length z
      rw [List.length_append] at this
      have h0 : ([] : List OP).length = 0 := rfl
      omega
    refine mixed_ok (n := 970000) (by rw [List.length_append]; omega) hne hP.less fun ms C6 hml hmne hP6 hO => ?_
    have hI1 := hI1.oth hp1 hO
    have hI2 := hI2.oth hp2 hO
    clear hP hO
    walk_at "go"
    refine g_ifFC (Z := fun X => AL.Keep C6 X) (fun K hK => ?_) fun C7 hK7 => ?_
    · walk_at "go"
      refine asked_ok M1 M2 hs hI1 hI2 (tq_map ms) (by rw [List.length_map]; omega) (by omega) fun C7 hK7 => ?_
      walk_at "go"
      exact hK C7 hK7
    have hI1 := hI1.keep hK7
    have hI2 := hI2.keep hK7
    have hP7 : Pen 970000 C7 p := by obtain ⟨c, h1, h2⟩ := hP6; exact ⟨c, hK7 p c h1, h2⟩
    clear hP6 hK7
    walk_at "go"
    refine bent_ok (n := 960000) M1 M2 (by omega) (by omega) hs1 hs hI1 hI2 hn1 hn2 hdd hp1 hp2 hml hmne hP7.less fun ds C8 E1' R1' E2' R2' M1 M2 hI1 hI2 hds hdl => ?_
    walk_at "go"
    refine g_ifFC (Z := fun X => AL.Keep C8 X) (fun K hK => ?_) fun C9 hK9 => ?_
    · walk_at "go"
      refine asked_ok M1 M2 hs hI1 hI2 hds (by omega) (by omega) fun C9 hK9 => ?_
      walk_at "go"
      refine g_kLc (fun i acc C' => C' = C9 ∧ acc.length = i ∧ ∀ d ∈ acc, Tq 3 d) (by simp only [sizeLine]; omega) ⟨rfl, rfl, by simp⟩ (fun i y acc C' hi hw => ?_) (fun acc C' hw => ?_)
      · obtain ⟨rfl, hal, hac⟩ := hw
        walk_at "go"
        refine turned_ok (hds y (List.mem_of_getElem? hi)) fun z hz => ?_
        refine ⟨rfl, by simp [hal], fun d hd => ?_⟩
        rcases List.mem_append.mp hd with h | h
        · exact hac d h
        · rw [List.mem_singleton.mp h]; exact hz
      · obtain ⟨rfl, hal, hac⟩ := hw
        refine asked_ok M2 M1 hs (hI2.keep hK9) (hI1.keep hK9) hac (by omega) (by omega) fun C10 hK10 => ?_
        walk_at "go"
        exact hK C10 (hK9.trans hK10)
    have hI1 := hI1.keep hK9
    have hI2 := hI2.keep hK9
    clear hK9
    walk_at "go"
    unfold aDict0F
    walk_at "go"
    refine g_kForL (fun j st C' => IsM C' d1 E1' R1' ∧ IsM C' d2 E2' R2' ∧ ∃ x7 : Option D, st = [some (.scr ns), some (.int (i : Int)), some (.ce p), some d1, some d2, some (.lst ds), x6, x7, x8]) ⟨hI1.isM, hI2.isM, _, rfl⟩ (fun j y st C' hj hw => ?_) (fun st C' hw => ?_)
    · obtain ⟨hJ1, hJ2, x7, rfl⟩ := hw
      have hy : Tq 5 y ∧ pairsO E1'.length E2'.length y = none := by
        have t5 : Tq 4 (.lst ds) := .lst (by omega) hds
        have hm := List.mem_of_getElem? hj
        simp only [List.mem_cons, List.not_mem_nil, or_false] at hm
        rcases hm with rfl | rfl | rfl | rfl | rfl | rfl | rfl
        · exact ⟨.non _, rfl⟩
        · exact ⟨Tq.succ (.tup (by omega) hds), rfl⟩
        · exact ⟨.dk _, rfl⟩
        · exact ⟨.str _ _, rfl⟩
        · exact ⟨.int _ _, rfl⟩
        · exact ⟨.bl _ _, rfl⟩
        · exact ⟨.lst (by simp) fun d hd => by rw [List.mem_singleton.mp hd]; exact t5, rfl⟩
      walk_at "go"
      refine g_ifFC (Z := fun X => AL.Keep C' X) (fun K hK => ?_) fun C9 hK9 => ?_
      · walk_at "go"
        refine alike_ok M1 M2 hs hJ1 hJ2 hy.1 fun C9 hK9 => ?_
        rw [holdB_no hy.2]
        walk_at "go"
        refine g_notBl ?_
        walk_at "go"
        refine within_ok M1 M2 hs (hJ1.keep hK9) (hJ2.keep hK9) hy.1 fun C10 hK10 => ?_
        rw [holdB_no hy.2]
        walk_at "go"
        refine g_notBl ?_
        walk_at "go"
        exact hK C10 (hK9.trans hK10)
      walk_at "go"
      exact ⟨hJ1.keep hK9, hJ2.keep hK9, _, rfl⟩
    · obtain ⟨hJ1, hJ2, x7, rfl⟩ := hw
      exact ⟨_, _, _, _, _, _, _, _, rfl⟩
  · obtain ⟨x1, x2, x3, x4, x5, x6, x7, x8, rfl⟩ := hw
    walk_at "go"
    rfl
end
end A_k36
namespace A_k36
open PySem PySem.Spec L2 AL
open PyProof.Rows (envOfC)
def topS (i : Nat) : Stmt := PySem.Challenge.pw_wordrules_k36_pairs_looked_at.main.body.getD i (.Pass ⟨0, 0, 0, 0⟩)
abbrev st_is_whole : Stmt := topS 1
theorem sc_is_whole : FnScope ["thing"] ["thing"] (defScope st_is_whole) := ⟨rfl, rfl, rfl, by decide +kernel, rfl, by decide +kernel, by decide +kernel⟩
theorem ok_is_whole {P : Program} {w : World} {K : PySem.W.Frag} {mg : Str → Option Value} {base : Heap} {f : Addr} {fd : FuncData} (F : L2.Fun K "is_whole" "is_whole" st_is_whole f fd) (hm : mg "is_whole" = some (.ref f)) (hb : Binds K fd ["thing"] []) (m_bool : mg "bool" = none) (m_int : mg "int" = none) (m_isinstance : mg "isinstance" = none) : Cal P w K mg base 1 "is_whole" 1 s_is_whole := by
  refine calA (b := a_is_whole) F sc_is_whole rfl hm hb ?_ (fun _ _ _ _ h => h)
  intro cdv A outer s H E hr hgd
  have hw : (Bs.nil ⟨w, mg⟩).g = ⟨w, mg⟩ := rfl
  exact ⟨_, ass_one (as_ret (ae_and (K := K) (ae_isi (K := K) (ae_v 0) m_isinstance m_int (by decide +kernel)) (ae_one (ae_not (K := K) (ae_isi (K := K) (ae_v 0) m_isinstance m_bool (by decide +kernel))))))⟩
abbrev st_led : Stmt := topS 3
theorem sc_led : FnScope ["machine", "stand", "number"] ["machine", "stand", "number"] (defScope st_led) := ⟨rfl, rfl, rfl, by decide +kernel, rfl, by decide +kernel, by decide +kernel⟩
theorem ok_led {P : Program} {w : World} {K : PySem.W.Frag} {mg : Str → Option Value} {base : Heap} {f : Addr} {fd : FuncData} (F : L2.Fun K "led" "led" st_led f fd) (hm : mg "led" = some (.ref f)) (hb : Binds K fd ["machine", "stand", "number"] []) : Cal P w K mg base 1 "led" 3 s_led := by
  refine calA (b := a_led) F sc_led rfl hm hb ?_ (fun _ _ _ _ h => h)
  intro cdv A outer s H E hr hgd
  have hw : (Bs.nil ⟨w, mg⟩).g = ⟨w, mg⟩ := rfl
  exact ⟨_, ass_cons (as_if (at_cmp ao_is (ae_v 1) (ae_non))
      (ass_one (as_ret (ae_non)))
      (ass_nil))
      (ass_one (as_ret (ae_ix (K := K) (ae_ix (K := K) (ae_ix (K := K) (ae_v 0) (ae_int)) (ae_v 1)) (ae_v 2))))⟩
abbrev st_is_end : Stmt := topS 5
theorem sc_is_end : FnScope ["machine", "stand"] ["machine", "stand"] (defScope st_is_end) := ⟨rfl, rfl, rfl, by decide +kernel, rfl, by decide +kernel, by decide +kernel⟩
theorem ok_is_end {P : Program} {w : World} {K : PySem.W.Frag} {mg : Str → Option Value} {base : Heap} {f : Addr} {fd : FuncData} (F : L2.Fun K "is_end" "is_end" st_is_end f fd) (hm : mg "is_end" = some (.ref f)) (hb : Binds K fd ["machine", "stand"] []) : Cal P w K mg base 1 "is_end" 2 s_is_end := by
  refine calA (b := a_is_end) F sc_is_end rfl hm hb ?_ (fun _ _ _ _ h => h)
  intro cdv A outer s H E hr hgd
  have hw : (Bs.nil ⟨w, mg⟩).g = ⟨w, mg⟩ := rfl
  exact ⟨_, ass_one (as_ret (ae_and (K := K) (ae_cmp ao_isnot (ae_v 1) (ae_non)) (ae_one (ae_ix (K := K) (ae_ix (K := K) (ae_v 0) (ae_int)) (ae_v 1)))))⟩
abbrev st_law_pen : Stmt := topS 13
theorem sc_law_pen : FnScope ["_law_script", "_law_k", "_law_cell"] ["_law_script", "_law_k"] (defScope st_law_pen) := ⟨rfl, rfl, rfl, by decide +kernel, rfl, by decide +kernel, by decide +kernel⟩
theorem ok_law_pen {P : Program} {w : World} {K : PySem.W.Frag} {mg : Str → Option Value} {base : Heap} {f : Addr} {fd : FuncData} (F : L2.Fun K "_law_pen" "_law_pen" st_law_pen f fd) (hm : mg "_law_pen" = some (.ref f)) (hb : Binds K fd ["_law_script", "_law_k"] []) (m_len : mg "len" = none) : Cal P w K mg base 1 "_law_pen" 2 s_law_pen := by
  refine calA (b := a_law_pen) F sc_law_pen rfl hm hb ?_ (fun _ _ _ _ h => h)
  intro cdv A outer s H E hr hgd
  have hw : (Bs.nil ⟨w, mg⟩).g = ⟨w, mg⟩ := rfl
  exact ⟨_, ass_cons (as_set 2 sc_law_pen.nd (ae_op (ao_add (K := K)) (ae_op ao_mul (ae_int) (ae_v 1)) (ae_int)) rfl (.inl rfl))
      (ass_cons (as_if (at_cmp ao_lt (ae_v 1) (ae_callB (ac_len (K := K)) m_len (by decide +kernel) (aa_cons (ae_v 0) (aa_nil))))
      (ass_one (as_set 2 sc_law_pen.nd (ae_ix (K := K) (ae_v 0) (ae_v 1)) rfl (.inl rfl)))
      (ass_one (as_if (at_cmp ao_gt (ae_callB (ac_len (K := K)) m_len (by decide +kernel) (aa_cons (ae_v 0) (aa_nil))) (ae_int))
      (ass_one (as_set 2 sc_law_pen.nd (ae_op (ao_add (K := K)) (ae_op ao_mod (ae_ix (K := K) (ae_v 0) (ae_op ao_mod (ae_v 1) (ae_callB (ac_len (K := K)) m_len (by decide +kernel) (aa_cons (ae_v 0) (aa_nil))))) (ae_int)) (ae_op ao_mul (ae_int) (ae_v 1))) rfl (.inl rfl)))
      (ass_nil))))
      (ass_cons (as_if (at_cmp ao_ge (ae_v 2) (ae_op ao_pow (ae_int) (ae_int)))
      (ass_one (as_ret (ae_lstM (aa_cons (ae_op ao_sub (ae_v 2) (ae_op ao_pow (ae_int) (ae_int))) (aa_cons (ae_op ao_mod (ae_v 2) (ae_int)) (aa_cons (ae_int) (aa_nil)))))))
      (ass_nil))
      (ass_one (as_ret (ae_lstM (aa_cons (ae_int) (aa_cons (ae_op ao_mod (ae_v 2) (ae_int)) (aa_cons (ae_int) (aa_nil)))))))))⟩
abbrev st_law_draw : Stmt := topS 14
theorem sc_law_draw : FnScope ["_law_pen_here", "_law_many", "_law_drawn", "_law_number"] ["_law_pen_here", "_law_many"] (defScope st_law_draw) := ⟨rfl, rfl, rfl, by decide +kernel, rfl, by decide +kernel, by decide +kernel⟩
theorem ok_law_draw {P : Program} {w : World} {K : PySem.W.Frag} {mg : Str → Option Value} {base : Heap} {f : Addr} {fd : FuncData} (F : L2.Fun K "_law_draw" "_law_draw" st_law_draw f fd) (hm : mg "_law_draw" = some (.ref f)) (hb : Binds K fd ["_law_pen_here", "_law_many"] []) : Cal P w K mg base 1 "_law_draw" 2 s_law_draw := by
  refine calA (b := a_law_draw) F sc_law_draw rfl hm hb ?_ (fun _ _ _ _ h => h)
  intro cdv A outer s H E hr hgd
  have hw : (Bs.nil ⟨w, mg⟩).g = ⟨w, mg⟩ := rfl
  exact ⟨_, ass_cons (as_setL (ae_op (ao_add (K := K)) (ae_ix (K := K) (ae_v 0) (ae_int)) (ae_int)) (ae_v 0) (ae_int))
      (ass_cons (as_if (at_cmp ao_gt (ae_ix (K := K) (ae_v 0) (ae_int)) (ae_int))
      (ass_cons (as_set 2 sc_law_draw.nd (ae_op ao_mod (ae_ix (K := K) (ae_v 0) (ae_int)) (ae_v 1)) rfl (.inl rfl))
      (ass_cons (as_setL (ae_op ao_div (ae_ix (K := K) (ae_v 0) (ae_int)) (ae_v 1)) (ae_v 0) (ae_int))
      (ass_one (as_ret (ae_v 2)))))
      (ass_nil))
      (ass_cons (as_set 3 sc_law_draw.nd (ae_op ao_mod (ae_op (ao_add (K := K)) (ae_op (ao_add (K := K)) (ae_ix (K := K) (ae_v 0) (ae_int)) (ae_op ao_mul (ae_int) (ae_ix (K := K) (ae_v 0) (ae_int)))) (ae_int)) (ae_int)) rfl (.inl rfl))
      (ass_cons (as_set 3 sc_law_draw.nd (ae_op (ao_add (K := K)) (ae_op ao_mod (ae_op ao_mul (ae_v 3) (ae_v 3)) (ae_int)) (ae_op ao_mul (ae_int) (ae_ix (K := K) (ae_v 0) (ae_int)))) rfl (.inl rfl))
      (ass_cons (as_set 3 sc_law_draw.nd (ae_op ao_mod (ae_op ao_mul (ae_v 3) (ae_v 3)) (ae_int)) rfl (.inl rfl))
      (ass_one (as_ret (ae_op ao_mod (ae_op ao_div (ae_v 3) (ae_int)) (ae_v 1))))))))⟩
abbrev st_law_goal : Stmt := topS 16
theorem sc_law_goal : FnScope ["_law_none", "_law_stand"] ["_law_none", "_law_stand"] (defScope st_law_goal) := ⟨rfl, rfl, rfl, by decide +kernel, rfl, by decide +kernel, by decide +kernel⟩
theorem ok_law_goal {P : Program} {w : World} {K : PySem.W.Frag} {mg : Str → Option Value} {base : Heap} {f : Addr} {fd : FuncData} (F : L2.Fun K "_law_goal" "_law_goal" st_law_goal f fd) (hm : mg "_law_goal" = some (.ref f)) (hb : Binds K fd ["_law_none", "_law_stand"] []) : Cal P w K mg base 1 "_law_goal" 2 s_law_goal := by
  refine calA (b := a_law_goal) F sc_law_goal rfl hm hb ?_ (fun _ _ _ _ h => h)
  intro cdv A outer s H E hr hgd
  have hw : (Bs.nil ⟨w, mg⟩).g = ⟨w, mg⟩ := rfl
  exact ⟨_, ass_cons (as_if (at_tru (K := K) (ae_v 0))
      (ass_one (as_ret (ae_non)))
      (ass_nil))
      (ass_one (as_ret (ae_v 1)))⟩
abbrev st_law_led : Stmt := topS 17
theorem sc_law_led : FnScope ["_law_machine_here", "_law_stand", "_law_number"] ["_law_machine_here", "_law_stand", "_law_number"] (defScope st_law_led) := ⟨rfl, rfl, rfl, by decide +kernel, rfl, by decide +kernel, by decide +kernel⟩
theorem ok_law_led {P : Program} {w : World} {K : PySem.W.Frag} {mg : Str → Option Value} {base : Heap} {f : Addr} {fd : FuncData} (F : L2.Fun K "_law_led" "_law_led" st_law_led f fd) (hm : mg "_law_led" = some (.ref f)) (hb : Binds K fd ["_law_machine_here", "_law_stand", "_law_number"] []) : Cal P w K mg base 1 "_law_led" 3 s_law_led := by
  refine calA (b := a_law_led) F sc_law_led rfl hm hb ?_ (fun _ _ _ _ h => h)
  intro cdv A outer s H E hr hgd
  have hw : (Bs.nil ⟨w, mg⟩).g = ⟨w, mg⟩ := rfl
  exact ⟨_, ass_cons (as_if (at_cmp ao_is (ae_v 1) (ae_non))
      (ass_one (as_ret (ae_non)))
      (ass_nil))
      (ass_one (as_ret (ae_ix (K := K) (ae_ix (K := K) (ae_ix (K := K) (ae_v 0) (ae_int)) (ae_v 1)) (ae_v 2))))⟩
abbrev st_law_is_end : Stmt := topS 19
theorem sc_law_is_end : FnScope ["_law_machine_here", "_law_stand"] ["_law_machine_here", "_law_stand"] (defScope st_law_is_end) := ⟨rfl, rfl, rfl, by decide +kernel, rfl, by decide +kernel, by decide +kernel⟩
theorem ok_law_is_end {P : Program} {w : World} {K : PySem.W.Frag} {mg : Str → Option Value} {base : Heap} {f : Addr} {fd : FuncData} (F : L2.Fun K "_law_is_end" "_law_is_end" st_law_is_end f fd) (hm : mg "_law_is_end" = some (.ref f)) (hb : Binds K fd ["_law_machine_here", "_law_stand"] []) : Cal P w K mg base 1 "_law_is_end" 2 s_law_is_end := by
  refine calA (b := a_law_is_end) F sc_law_is_end rfl hm hb ?_ (fun _ _ _ _ h => h)
  intro cdv A outer s H E hr hgd
  have hw : (Bs.nil ⟨w, mg⟩).g = ⟨w, mg⟩ := rfl
  exact ⟨_, ass_one (as_ret (ae_and (K := K) (ae_cmp ao_isnot (ae_v 1) (ae_non)) (ae_one (ae_ix (K := K) (ae_ix (K := K) (ae_v 0) (ae_int)) (ae_v 1)))))⟩
abbrev st_law_copied : Stmt := topS 20
theorem sc_law_copied : FnScope ["_law_machine_here", "_law_row"] ["_law_machine_here"] (defScope st_law_copied) := ⟨rfl, rfl, rfl, by decide +kernel, rfl, by decide +kernel, by decide +kernel⟩
theorem ok_law_copied {P : Program} {w : World} {K : PySem.W.Frag} {mg : Str → Option Value} {base : Heap} {f : Addr} {fd : FuncData} (F : L2.Fun K "_law_copied" "_law_copied" st_law_copied f fd) (hm : mg "_law_copied" = some (.ref f)) (hb : Binds K fd ["_law_machine_here"] []) (m_list : mg "list" = none) : Cal P w K mg base 1 "_law_copied" 1 s_law_copied := by
  refine calA (b := a_law_copied) F sc_law_copied rfl hm hb ?_ (fun _ _ _ _ h => h)
  intro cdv A outer s H E hr hgd
  have hw : (Bs.nil ⟨w, mg⟩).g = ⟨w, mg⟩ := rfl
  exact ⟨_, ass_one (as_ret (ae_tup (aa_cons (ae_callT (ac_list (K := K)) m_list (by decide +kernel) (aa_cons (ae_ix (K := K) (ae_v 0) (ae_int)) (aa_nil))) (aa_cons (ae_lc [("_law_row", 1)] sc_law_copied.nd (ai_list (K := K) (ae_ix (K := K) (ae_v 0) (ae_int))) (blkOk_by (own := [("_law_row", 1)]) (N := ["_law_machine_here", "_law_row"]) (sc := defScope st_law_copied) (by decide +kernel)) (fun _ _ _ _ _ => ag_name 1 (vs := [1]) sc_law_copied.nd rfl (.inl rfl)) (fun _ _ _ _ _ => ats_nil) (fun _ _ _ _ _ => ae_callT (ac_list (K := K)) m_list (by decide +kernel) (aa_cons (ae_v 1) (aa_nil)))) (aa_nil)))))⟩
abbrev st_law_twin : Stmt := topS 22
theorem sc_law_twin : FnScope ["_law_goal_here", "_law_which"] ["_law_goal_here", "_law_which"] (defScope st_law_twin) := ⟨rfl, rfl, rfl, by decide +kernel, rfl, by decide +kernel, by decide +kernel⟩
theorem ok_law_twin {P : Program} {w : World} {K : PySem.W.Frag} {mg : Str → Option Value} {base : Heap} {f : Addr} {fd : FuncData} (F : L2.Fun K "_law_twin" "_law_twin" st_law_twin f fd) (hm : mg "_law_twin" = some (.ref f)) (hb : Binds K fd ["_law_goal_here", "_law_which"] []) : Cal P w K mg base 1 "_law_twin" 2 s_law_twin := by
  refine calA (b := a_law_twin) F sc_law_twin rfl hm hb ?_ (fun _ _ _ _ h => h)
  intro cdv A outer s H E hr hgd
  have hw : (Bs.nil ⟨w, mg⟩).g = ⟨w, mg⟩ := rfl
  exact ⟨_, ass_cons (as_if (at_cmp ao_is (ae_v 0) (ae_non))
      (ass_one (as_ret (ae_non)))
      (ass_nil))
      (ass_one (as_ret (ae_op (ao_add (K := K)) (ae_op ao_mul (ae_int) (ae_v 0)) (ae_v 1))))⟩
abbrev st_law_is_place : Stmt := topS 24
theorem sc_law_is_place : FnScope ["_law_machine_here", "_law_thing"] ["_law_machine_here", "_law_thing"] (defScope st_law_is_place) := ⟨rfl, rfl, rfl, by decide +kernel, rfl, by decide +kernel, by decide +kernel⟩
theorem ok_law_is_place {P : Program} {w : World} {K : PySem.W.Frag} {mg : Str → Option Value} {base : Heap} {f : Addr} {fd : FuncData} (F : L2.Fun K "_law_is_place" "_law_is_place" st_law_is_place f fd) (hm : mg "_law_is_place" = some (.ref f)) (hb : Binds K fd ["_law_machine_here", "_law_thing"] []) (m_bool : mg "bool" = none) (m_int : mg "int" = none) (m_isinstance : mg "isinstance" = none) (m_len : mg "len" = none) : Cal P w K mg base 1 "_law_is_place" 2 s_law_is_place := by
  refine calA (b := a_law_is_place) F sc_law_is_place rfl hm hb ?_ (fun _ _ _ _ h => h)
  intro cdv A outer s H E hr hgd
  have hw : (Bs.nil ⟨w, mg⟩).g = ⟨w, mg⟩ := rfl
  exact ⟨_, ass_cons (as_if (at_cmp ao_is (ae_v 1) (ae_non))
      (ass_one (as_ret (ae_bl)))
      (ass_nil))
      (ass_one (as_ret (ae_and (K := K) (ae_isi (K := K) (ae_v 1) m_isinstance m_int (by decide +kernel)) (ae_and (K := K) (ae_not (K := K) (ae_isi (K := K) (ae_v 1) m_isinstance m_bool (by decide +kernel))) (ae_one (ae_chain ao_le ao_lt (ae_int) (ae_v 1) (ae_callB (ac_len (K := K)) m_len (by decide +kernel) (aa_cons (ae_ix (K := K) (ae_v 0) (ae_int)) (aa_nil)))))))))⟩
abbrev st_law_odd : Stmt := topS 28
theorem sc_law_odd : FnScope ["_law_pair", "_law_way", "_law_size", "_law_some"] ["_law_pair", "_law_way", "_law_size"] (defScope st_law_odd) := ⟨rfl, rfl, rfl, by decide +kernel, rfl, by decide +kernel, by decide +kernel⟩
theorem ok_law_odd {P : Program} {w : World} {K : PySem.W.Frag} {mg : Str → Option Value} {base : Heap} {f : Addr} {fd : FuncData} (F : L2.Fun K "_law_odd" "_law_odd" st_law_odd f fd) (hm : mg "_law_odd" = some (.ref f)) (hb : Binds K fd ["_law_pair", "_law_way", "_law_size"] []) : Cal P w K mg base 1 "_law_odd" 3 s_law_odd := by
  refine calA (b := a_law_odd) F sc_law_odd rfl hm hb ?_ (fun _ _ _ _ h => h)
  intro cdv A outer s H E hr hgd
  have hw : (Bs.nil ⟨w, mg⟩).g = ⟨w, mg⟩ := rfl
  exact ⟨_, ass_cons (as_set 3 sc_law_odd.nd (ae_lst (aa_cons (ae_lst (aa_cons (ae_ix (K := K) (ae_v 0) (ae_int)) (aa_cons (ae_ix (K := K) (ae_v 0) (ae_int)) (aa_nil)))) (aa_cons (ae_tup (aa_cons (ae_ix (K := K) (ae_v 0) (ae_int)) (aa_nil))) (aa_cons (ae_op (ao_add (K := K)) (ae_v 0) (ae_tup (aa_cons (ae_int) (aa_nil)))) (aa_cons (ae_tup (aa_cons (ae_neg (ae_int)) (aa_cons (ae_ix (K := K) (ae_v 0) (ae_int)) (aa_nil)))) (aa_cons (ae_tup (aa_cons (ae_v 2) (aa_cons (ae_ix (K := K) (ae_v 0) (ae_int)) (aa_nil)))) (aa_cons (ae_tup (aa_cons (ae_bl) (aa_cons (ae_ix (K := K) (ae_v 0) (ae_int)) (aa_nil)))) (aa_nil)))))))) rfl (.inl rfl))
      (ass_cons (as_set 3 sc_law_odd.nd (ae_op (ao_add (K := K)) (ae_v 3) (ae_lst (aa_cons (ae_tup (aa_cons (ae_str) (aa_cons (ae_ix (K := K) (ae_v 0) (ae_int)) (aa_nil)))) (aa_cons (ae_tup (aa_cons (ae_ix (K := K) (ae_v 0) (ae_int)) (aa_cons (ae_neg (ae_int)) (aa_nil)))) (aa_cons (ae_tup (aa_cons (ae_ix (K := K) (ae_v 0) (ae_int)) (aa_cons (ae_op ao_mul (ae_int) (ae_v 2)) (aa_nil)))) (aa_cons (ae_tup (aa_cons (ae_ix (K := K) (ae_v 0) (ae_int)) (aa_cons (ae_bl) (aa_nil)))) (aa_cons (ae_non) (aa_cons (ae_str) (aa_cons (ae_int) (aa_nil)))))))))) rfl (.inl rfl))
      (ass_cons (as_set 3 sc_law_odd.nd (ae_op (ao_add (K := K)) (ae_v 3) (ae_lst (aa_cons (ae_tup (aa_cons (ae_lst (aa_cons (ae_ix (K := K) (ae_v 0) (ae_int)) (aa_nil))) (aa_cons (ae_ix (K := K) (ae_v 0) (ae_int)) (aa_nil)))) (aa_cons (ae_tup (aa_cons (ae_ix (K := K) (ae_v 0) (ae_int)) (aa_cons (ae_dict0F) (aa_nil)))) (aa_cons (ae_op (ao_repT (K := K)) (ae_cut (K := K) (ae_v 0) ao_none (ao_some (ae_int))) (ae_int)) (aa_nil)))))) rfl (.inl rfl))
      (ass_one (as_ret (ae_ix (K := K) (ae_v 3) (ae_v 1))))))⟩
abbrev st_law_turned : Stmt := topS 31
theorem sc_law_turned : FnScope ["_law_pair"] ["_law_pair"] (defScope st_law_turned) := ⟨rfl, rfl, rfl, by decide +kernel, rfl, by decide +kernel, by decide +kernel⟩
theorem ok_law_turned {P : Program} {w : World} {K : PySem.W.Frag} {mg : Str → Option Value} {base : Heap} {f : Addr} {fd : FuncData} (F : L2.Fun K "_law_turned" "_law_turned" st_law_turned f fd) (hm : mg "_law_turned" = some (.ref f)) (hb : Binds K fd ["_law_pair"] []) (m_isinstance : mg "isinstance" = none) (m_tuple : mg "tuple" = none) : Cal P w K mg base 1 "_law_turned" 1 s_law_turned := by
  refine calA (b := a_law_turned) F sc_law_turned rfl hm hb ?_ (fun _ _ _ _ h => h)
  intro cdv A outer s H E hr hgd
  have hw : (Bs.nil ⟨w, mg⟩).g = ⟨w, mg⟩ := rfl
  exact ⟨_, ass_cons (as_if (at_tru (K := K) (ae_isi (K := K) (ae_v 0) m_isinstance m_tuple (by decide +kernel)))
      (ass_one (as_ret (ae_revT (K := K) (ae_v 0))))
      (ass_nil))
      (ass_one (as_ret (ae_v 0)))⟩
abbrev st_is_parted : Stmt := topS 6
theorem sc_is_parted : FnScope ["one", "other", "pair", "whole", "first", "second"] ["one", "other", "pair", "whole"] (defScope st_is_parted) := ⟨rfl, rfl, rfl, by decide +kernel, rfl, by decide +kernel, by decide +kernel⟩
theorem ok_is_parted {P : Program} {w : World} {K : PySem.W.Frag} {mg : Str → Option Value} {base : Heap} {f : Addr} {fd : FuncData} (F : L2.Fun K "is_parted" "is_parted" st_is_parted f fd) (hm : mg "is_parted" = some (.ref f)) (hb : Binds K fd ["one", "other", "pair", "whole"] []) (c_is_end : Cal P w K mg base 1 "is_end" 2 s_is_end) : Cal P w K mg base 2 "is_parted" 4 s_is_parted := by
  refine calA (b := a_is_parted) F sc_is_parted rfl hm hb ?_ (fun _ _ _ _ h => h)
  intro cdv A outer s H E hr hgd
  have hw : (Bs.nil ⟨w, mg⟩).g = ⟨w, mg⟩ := rfl
  exact ⟨_, ass_cons (as_set 4 sc_is_parted.nd (ae_call (K := K) (g := ⟨w, mg⟩) c_is_end hr hgd (aa_cons (ae_v 0) (aa_cons (ae_ix (K := K) (ae_v 2) (ae_int)) (aa_nil)))) rfl (.inl rfl))
      (ass_cons (as_set 5 sc_is_parted.nd (ae_call (K := K) (g := ⟨w, mg⟩) c_is_end hr hgd (aa_cons (ae_v 1) (aa_cons (ae_ix (K := K) (ae_v 2) (ae_int)) (aa_nil)))) rfl (.inl rfl))
      (ass_one (as_ret (ae_or (K := K) (ae_and (K := K) (ae_v 4) (ae_one (ae_not (K := K) (ae_v 5)))) (ae_one (ae_and (K := K) (ae_v 3) (ae_and (K := K) (ae_v 5) (ae_one (ae_not (K := K) (ae_v 4))))))))))⟩
abbrev st_is_place : Stmt := topS 7
theorem sc_is_place : FnScope ["machine", "thing"] ["machine", "thing"] (defScope st_is_place) := ⟨rfl, rfl, rfl, by decide +kernel, rfl, by decide +kernel, by decide +kernel⟩
theorem ok_is_place {P : Program} {w : World} {K : PySem.W.Frag} {mg : Str → Option Value} {base : Heap} {f : Addr} {fd : FuncData} (F : L2.Fun K "is_place" "is_place" st_is_place f fd) (hm : mg "is_place" = some (.ref f)) (hb : Binds K fd ["machine", "thing"] []) (m_len : mg "len" = none) (c_is_whole : Cal P w K mg base 1 "is_whole" 1 s_is_whole) : Cal P w K mg base 2 "is_place" 2 s_is_place := by
  refine calA (b := a_is_place) F sc_is_place rfl hm hb ?_ (fun _ _ _ _ h => h)
  intro cdv A outer s H E hr hgd
  have hw : (Bs.nil ⟨w, mg⟩).g = ⟨w, mg⟩ := rfl
  exact ⟨_, ass_one (as_ret (ae_or (K := K) (ae_cmp ao_is (ae_v 1) (ae_non)) (ae_one (ae_and (K := K) (ae_call (K := K) (g := ⟨w, mg⟩) c_is_whole hr hgd (aa_cons (ae_v 1) (aa_nil))) (ae_one (ae_chain ao_le ao_lt (ae_int) (ae_v 1) (ae_callB (ac_len (K := K)) m_len (by decide +kernel) (aa_cons (ae_ix (K := K) (ae_v 0) (ae_int)) (aa_nil)))))))))⟩
abbrev st_law_machine : Stmt := topS 15
theorem sc_law_machine : FnScope ["_law_pen_here", "_law_many", "_law_most", "_law_size", "_law_rare", "_law_k", "_law_ends", "_law_lost", "_law_goes", "_law_sign"] ["_law_pen_here", "_law_many", "_law_most"] (defScope st_law_machine) := ⟨rfl, rfl, rfl, by decide +kernel, rfl, by decide +kernel, by decide +kernel⟩
theorem ok_law_machine {P : Program} {w : World} {K : PySem.W.Frag} {mg : Str → Option Value} {base : Heap} {f : Addr} {fd : FuncData} (F : L2.Fun K "_law_machine" "_law_machine" st_law_machine f fd) (hm : mg "_law_machine" = some (.ref f)) (hb : Binds K fd ["_law_pen_here", "_law_many", "_law_most"] []) (m_range : mg "range" = none) (c_law_draw : Cal P w K mg base 1 "_law_draw" 2 s_law_draw) (c_law_goal : Cal P w K mg base 1 "_law_goal" 2 s_law_goal) : Cal P w K mg base 2 "_law_machine" 3 s_law_machine := by
  refine calA (b := a_law_machine) F sc_law_machine rfl hm hb ?_ (fun _ _ _ _ h => h)
  intro cdv A outer s H E hr hgd
  have hw : (Bs.nil ⟨w, mg⟩).g = ⟨w, mg⟩ := rfl
  exact ⟨_, ass_cons (as_set 3 sc_law_machine.nd (ae_op (ao_add (K := K)) (ae_int) (ae_call (K := K) (g := ⟨w, mg⟩) c_law_draw hr hgd (aa_cons (ae_v 0) (aa_cons (ae_v 2) (aa_nil))))) rfl (.inr rfl))
      (ass_cons (as_set 4 sc_law_machine.nd (ae_ix (K := K) (ae_lst (aa_cons (ae_int) (aa_cons (ae_int) (aa_cons (ae_int) (aa_nil))))) (ae_call (K := K) (g := ⟨w, mg⟩) c_law_draw hr hgd (aa_cons (ae_v 0) (aa_cons (ae_int) (aa_nil))))) rfl (.inr rfl))
      (ass_cons (as_setLcM 6 [("_law_k", 5)] sc_law_machine.nd (ai_range1 m_range (aa_cons (ae_v 3) (aa_nil))) (sw_true rfl rfl rfl (by decide +kernel)) (blkOk_by (own := [("_law_k", 5)]) (N := ["_law_pen_here", "_law_many", "_law_most", "_law_size", "_law_rare", "_law_k", "_law_ends", "_law_lost", "_law_goes", "_law_sign"]) (sc := defScope st_law_machine) (by decide +kernel)) (fun _ _ _ _ _ => ag_name 5 (vs := [5]) sc_law_machine.nd rfl (.inl rfl)) (fun _ _ _ _ _ => ats_nil) (fun _ _ _ _ _ => ae_cmp (ao_eq (K := K) hr.units) (ae_call (K := K) (g := ⟨w, mg⟩) c_law_draw hr hgd (aa_cons (ae_v 0) (aa_cons (ae_v 4) (aa_nil)))) (ae_int)))
      (ass_cons (as_set 7 sc_law_machine.nd (ae_ix (K := K) (ae_lst (aa_cons (ae_int) (aa_cons (ae_int) (aa_cons (ae_int) (aa_nil))))) (ae_call (K := K) (g := ⟨w, mg⟩) c_law_draw hr hgd (aa_cons (ae_v 0) (aa_cons (ae_int) (aa_nil))))) rfl (.inr rfl))
      (ass_cons (as_set 8 sc_law_machine.nd (ae_lstM (aa_nil)) rfl (.inl rfl))
      (ass_cons (as_for (ai_range1 m_range (aa_cons (ae_v 3) (aa_nil))) (ag_name 5 (vs := [5]) sc_law_machine.nd rfl (.inl rfl))
      (ass_one (as_expr (ae_meth (K := K) PySem.F.plainAttrs_list PySem.F.slot_list_append PySem.F.type_list_append am_append (ae_v 8) (aa_cons (ae_lcM [("_law_sign", 9)] sc_law_machine.nd (ai_range1 m_range (aa_cons (ae_v 1) (aa_nil))) (blkOk_by (own := [("_law_sign", 9)]) (N := ["_law_pen_here", "_law_many", "_law_most", "_law_size", "_law_rare", "_law_k", "_law_ends", "_law_lost", "_law_goes", "_law_sign"]) (sc := defScope st_law_machine) (by decide +kernel)) (fun _ _ _ _ _ => ag_name 9 (vs := [9]) sc_law_machine.nd rfl (.inl rfl)) (fun _ _ _ _ _ => ats_nil) (fun _ _ _ _ _ => ae_call (K := K) (g := ⟨w, mg⟩) c_law_goal hr hgd (aa_cons (ae_cmp ao_lt (ae_call (K := K) (g := ⟨w, mg⟩) c_law_draw hr hgd (aa_cons (ae_v 0) (aa_cons (ae_int) (aa_nil)))) (ae_v 7)) (aa_cons (ae_call (K := K) (g := ⟨w, mg⟩) c_law_draw hr hgd (aa_cons (ae_v 0) (aa_cons (ae_v 3) (aa_nil)))) (aa_nil))))) (aa_nil))))))
      (ass_one (as_ret (ae_tup (aa_cons (ae_v 6) (aa_cons (ae_v 8) (aa_nil)))))))))))⟩
abbrev st_law_doubled : Stmt := topS 21
theorem sc_law_doubled : FnScope ["_law_pen_here", "_law_machine_here", "_law_bent_here", "_law_ends", "_law_goes", "_law_stand", "_law_row", "_law_turn", "_law_at", "_law_number", "_law_goal_here"] ["_law_pen_here", "_law_machine_here", "_law_bent_here"] (defScope st_law_doubled) := ⟨rfl, rfl, rfl, by decide +kernel, rfl, by decide +kernel, by decide +kernel⟩
theorem ok_law_doubled {P : Program} {w : World} {K : PySem.W.Frag} {mg : Str → Option Value} {base : Heap} {f : Addr} {fd : FuncData} (F : L2.Fun K "_law_doubled" "_law_doubled" st_law_doubled f fd) (hm : mg "_law_doubled" = some (.ref f)) (hb : Binds K fd ["_law_pen_here", "_law_machine_here", "_law_bent_here"] []) (m_enumerate : mg "enumerate" = none) (m_len : mg "len" = none) (m_range : mg "range" = none) (c_law_draw : Cal P w K mg base 1 "_law_draw" 2 s_law_draw) (c_law_goal : Cal P w K mg base 1 "_law_goal" 2 s_law_goal) (c_law_twin : Cal P w K mg base 1 "_law_twin" 2 s_law_twin) : Cal P w K mg base 2 "_law_doubled" 3 s_law_doubled := by
  refine calA (b := a_law_doubled) F sc_law_doubled rfl hm hb ?_ (fun _ _ _ _ h => h)
  intro cdv A outer s H E hr hgd
  have hw : (Bs.nil ⟨w, mg⟩).g = ⟨w, mg⟩ := rfl
  exact ⟨_, ass_cons (as_set 3 sc_law_doubled.nd (ae_lstM (aa_nil)) rfl (.inl rfl))
      (ass_cons (as_set 4 sc_law_doubled.nd (ae_lstM (aa_nil)) rfl (.inl rfl))
      (ass_cons (as_for (ai_enum (K := K) m_enumerate (aa_cons (ae_ix (K := K) (ae_v 1) (ae_int)) (aa_nil))) (ag_tup (K := K) (ags_cons (ag_name 5 (vs := [5, 6]) sc_law_doubled.nd rfl (.inl rfl)) (ags_cons (ag_name 6 (vs := [5, 6]) sc_law_doubled.nd rfl (.inl rfl)) (ags_nil))))
      (ass_one (as_for (ai_range1 m_range (aa_cons (ae_int) (aa_nil))) (ag_name 7 (vs := [7]) sc_law_doubled.nd rfl (.inl rfl))
      (ass_cons (as_expr (ae_meth (K := K) PySem.F.plainAttrs_list PySem.F.slot_list_append PySem.F.type_list_append am_append (ae_v 3) (aa_cons (ae_ix (K := K) (ae_ix (K := K) (ae_v 1) (ae_int)) (ae_v 5)) (aa_nil))))
      (ass_one (as_expr (ae_meth (K := K) PySem.F.plainAttrs_list PySem.F.slot_list_append PySem.F.type_list_append am_append (ae_v 4) (aa_cons (ae_lcM [("_law_goal_here", 10)] sc_law_doubled.nd (ai_list (K := K) (ae_v 6)) (blkOk_by (own := [("_law_goal_here", 10)]) (N := ["_law_pen_here", "_law_machine_here", "_law_bent_here", "_law_ends", "_law_goes", "_law_stand", "_law_row", "_law_turn", "_law_at", "_law_number", "_law_goal_here"]) (sc := defScope st_law_doubled) (by decide +kernel)) (fun _ _ _ _ _ => ag_name 10 (vs := [10]) sc_law_doubled.nd rfl (.inl rfl)) (fun _ _ _ _ _ => ats_nil) (fun _ _ _ _ _ => ae_call (K := K) (g := ⟨w, mg⟩) c_law_twin hr hgd (aa_cons (ae_v 10) (aa_cons (ae_call (K := K) (g := ⟨w, mg⟩) c_law_draw hr hgd (aa_cons (ae_v 0) (aa_cons (ae_int) (aa_nil)))) (aa_nil))))) (aa_nil)))))))))
      (ass_cons (as_set 8 sc_law_doubled.nd (ae_call (K := K) (g := ⟨w, mg⟩) c_law_draw hr hgd (aa_cons (ae_v 0) (aa_cons (ae_callB (ac_len (K := K)) m_len (by decide +kernel) (aa_cons (ae_v 3) (aa_nil))) (aa_nil)))) rfl (.inl rfl))
      (ass_cons (as_if (at_cmp (ao_eq (K := K) hr.units) (ae_v 2) (ae_int))
      (ass_one (as_no))
      (ass_nil))
      (ass_cons (as_if (at_cmp (ao_eq (K := K) hr.units) (ae_v 2) (ae_int))
      (ass_cons (as_set 9 sc_law_doubled.nd (ae_call (K := K) (g := ⟨w, mg⟩) c_law_draw hr hgd (aa_cons (ae_v 0) (aa_cons (ae_callB (ac_len (K := K)) m_len (by decide +kernel) (aa_cons (ae_ix (K := K) (ae_v 4) (ae_int)) (aa_nil))) (aa_nil)))) rfl (.inl rfl))
      (ass_one (as_no)))
      (ass_nil))
      (ass_cons (as_if (at_cmp (ao_eq (K := K) hr.units) (ae_v 2) (ae_int))
      (ass_one (as_no))
      (ass_nil))
      (ass_one (as_ret (ae_tup (aa_cons (ae_v 3) (aa_cons (ae_v 4) (aa_nil))))))))))))⟩
abbrev st_law_are_pairs : Stmt := topS 25
theorem sc_law_are_pairs : FnScope ["_law_one", "_law_other", "_law_pairs", "_law_pair"] ["_law_one", "_law_other", "_law_pairs"] (defScope st_law_are_pairs) := ⟨rfl, rfl, rfl, by decide +kernel, rfl, by decide +kernel, by decide +kernel⟩
theorem ok_law_are_pairs {P : Program} {w : World} {K : PySem.W.Frag} {mg : Str → Option Value} {base : Heap} {f : Addr} {fd : FuncData} (F : L2.Fun K "_law_are_pairs" "_law_are_pairs" st_law_are_pairs f fd) (hm : mg "_law_are_pairs" = some (.ref f)) (hb : Binds K fd ["_law_one", "_law_other", "_law_pairs"] []) (m_isinstance : mg "isinstance" = none) (m_len : mg "len" = none) (m_list : mg "list" = none) (m_tuple : mg "tuple" = none) (c_law_is_place : Cal P w K mg base 1 "_law_is_place" 2 s_law_is_place) : Cal P w K mg base 2 "_law_are_pairs" 3 s_law_are_pairs := by
  refine calA (b := a_law_are_pairs) F sc_law_are_pairs rfl hm hb ?_ (fun _ _ _ _ h => h)
  intro cdv A outer s H E hr hgd
  have hw : (Bs.nil ⟨w, mg⟩).g = ⟨w, mg⟩ := rfl
  exact ⟨_, ass_cons (as_if (at_not (at_tru (K := K) (ae_isi (K := K) (ae_v 2) m_isinstance m_list (by decide +kernel))))
      (ass_one (as_ret (ae_bl)))
      (ass_nil))
      (ass_cons (as_for (ai_list (K := K) (ae_v 2)) (ag_name 3 (vs := [3]) sc_law_are_pairs.nd rfl (.inl rfl))
      (ass_cons (as_if (aw_t (aw_or (at_not (at_tru (K := K) (ae_isi (K := K) (ae_v 3) m_isinstance m_tuple (by decide +kernel)))) (aw_or1 (at_cmp (ao_ne (K := K) hr.units) (ae_callB (ac_len (K := K)) m_len (by decide +kernel) (aa_cons (ae_v 3) (aa_nil))) (ae_int)))))
      (ass_one (as_ret (ae_bl)))
      (ass_nil))
      (ass_one (as_if (aw_t (aw_or (at_not (at_tru (K := K) (ae_call (K := K) (g := ⟨w, mg⟩) c_law_is_place hr hgd (aa_cons (ae_v 0) (aa_cons (ae_ix (K := K) (ae_v 3) (ae_int)) (aa_nil)))))) (aw_or1 (at_not (at_tru (K := K) (ae_call (K := K) (g := ⟨w, mg⟩) c_law_is_place hr hgd (aa_cons (ae_v 1) (aa_cons (ae_ix (K := K) (ae_v 3) (ae_int)) (aa_nil)))))))))
      (ass_one (as_ret (ae_bl)))
      (ass_nil)))))
      (ass_one (as_ret (ae_bl))))⟩
abbrev st_law_mixed : Stmt := topS 27
theorem sc_law_mixed : FnScope ["_law_pen_here", "_law_some", "_law_found", "_law_one"] ["_law_pen_here", "_law_some"] (defScope st_law_mixed) := ⟨rfl, rfl, rfl, by decide +kernel, rfl, by decide +kernel, by decide +kernel⟩
theorem ok_law_mixed {P : Program} {w : World} {K : PySem.W.Frag} {mg : Str → Option Value} {base : Heap} {f : Addr} {fd : FuncData} (F : L2.Fun K "_law_mixed" "_law_mixed" st_law_mixed f fd) (hm : mg "_law_mixed" = some (.ref f)) (hb : Binds K fd ["_law_pen_here", "_law_some"] []) (m_len : mg "len" = none) (c_law_draw : Cal P w K mg base 1 "_law_draw" 2 s_law_draw) : Cal P w K mg base 2 "_law_mixed" 2 s_law_mixed := by
  refine calA (b := a_law_mixed) F sc_law_mixed rfl hm hb ?_ (fun _ _ _ _ h => h)
  intro cdv A outer s H E hr hgd
  have hw : (Bs.nil ⟨w, mg⟩).g = ⟨w, mg⟩ := rfl
  exact ⟨_, ass_cons (as_set 2 sc_law_mixed.nd (ae_lstM (aa_nil)) rfl (.inl rfl))
      (ass_cons (as_for (ai_list (K := K) (ae_v 1)) (ag_name 3 (vs := [3]) sc_law_mixed.nd rfl (.inl rfl))
      (ass_cons (as_expr (ae_meth (K := K) PySem.F.plainAttrs_list PySem.F.slot_list_insert PySem.F.type_list_insert am_insert (ae_v 2) (aa_cons (ae_call (K := K) (g := ⟨w, mg⟩) c_law_draw hr hgd (aa_cons (ae_v 0) (aa_cons (ae_op (ao_add (K := K)) (ae_callB (ac_len (K := K)) m_len (by decide +kernel) (aa_cons (ae_v 2) (aa_nil))) (ae_int)) (aa_nil)))) (aa_cons (ae_v 3) (aa_nil)))))
      (ass_one (as_if (at_cmp (ao_eq (K := K) hr.units) (ae_call (K := K) (g := ⟨w, mg⟩) c_law_draw hr hgd (aa_cons (ae_v 0) (aa_cons (ae_int) (aa_nil)))) (ae_int))
      (ass_one (as_expr (ae_meth (K := K) PySem.F.plainAttrs_list PySem.F.slot_list_append PySem.F.type_list_append am_append (ae_v 2) (aa_cons (ae_v 3) (aa_nil)))))
      (ass_nil)))))
      (ass_frz 2 (ass_one (as_ret (ae_v 2)))))⟩
abbrev st_law_bent : Stmt := topS 29
theorem sc_law_bent : FnScope ["_law_pen_here", "_law_one", "_law_other", "_law_pairs", "_law_way", "_law_at", "_law_size", "_law_lost", "_law_more", "_law_machine_here", "_law_stand", "_law_row", "_law_pair"] ["_law_pen_here", "_law_one", "_law_other", "_law_pairs"] (defScope st_law_bent) := ⟨rfl, rfl, rfl, by decide +kernel, rfl, by decide +kernel, by decide +kernel⟩
theorem ok_law_bent {P : Program} {w : World} {K : PySem.W.Frag} {mg : Str → Option Value} {base : Heap} {f : Addr} {fd : FuncData} (F : L2.Fun K "_law_bent" "_law_bent" st_law_bent f fd) (hm : mg "_law_bent" = some (.ref f)) (hb : Binds K fd ["_law_pen_here", "_law_one", "_law_other", "_law_pairs"] []) (m_len : mg "len" = none) (c_law_draw : Cal P w K mg base 1 "_law_draw" 2 s_law_draw) (c_law_goal : Cal P w K mg base 1 "_law_goal" 2 s_law_goal) (c_law_odd : Cal P w K mg base 1 "_law_odd" 3 s_law_odd) : Cal P w K mg base 2 "_law_bent" 4 s_law_bent := by
  refine calA (b := a_law_bent) F sc_law_bent rfl hm hb ?_ (fun _ _ _ _ h => h)
  intro cdv A outer s H E hr hgd
  have hw : (Bs.nil ⟨w, mg⟩).g = ⟨w, mg⟩ := rfl
  exact ⟨_, ass_cons (as_set 4 sc_law_bent.nd (ae_call (K := K) (g := ⟨w, mg⟩) c_law_draw hr hgd (aa_cons (ae_v 0) (aa_cons (ae_int) (aa_nil)))) rfl (.inl rfl))
      (ass_cons (as_set 5 sc_law_bent.nd (ae_call (K := K) (g := ⟨w, mg⟩) c_law_draw hr hgd (aa_cons (ae_v 0) (aa_cons (ae_callB (ac_len (K := K)) m_len (by decide +kernel) (aa_cons (ae_v 3) (aa_nil))) (aa_nil)))) rfl (.inl rfl))
      (ass_cons (as_set 6 sc_law_bent.nd (ae_callB (ac_len (K := K)) m_len (by decide +kernel) (aa_cons (ae_ix (K := K) (ae_v 1) (ae_int)) (aa_nil))) rfl (.inl rfl))
      (ass_cons (as_if (at_cmp ao_lt (ae_v 4) (ae_int))
      (ass_cons (as_set 7 sc_law_bent.nd (ae_ix (K := K) (ae_v 3) (ae_v 5)) rfl (.inr rfl))
      (ass_one (as_ret (ae_lc [("_law_pair", 12)] sc_law_bent.nd (ai_list (K := K) (ae_v 3)) (blkOk_by (own := [("_law_pair", 12)]) (N := ["_law_pen_here", "_law_one", "_law_other", "_law_pairs", "_law_way", "_law_at", "_law_size", "_law_lost", "_law_more", "_law_machine_here", "_law_stand", "_law_row", "_law_pair"]) (sc := defScope st_law_bent) (by decide +kernel)) (fun _ _ _ _ _ => ag_name 12 (vs := [12]) sc_law_bent.nd rfl (.inl rfl)) (fun _ _ _ _ _ => ats_one (at_cmp (ao_neX (K := K) hr.units) (ae_v 12) (ae_v 7))) (fun _ _ _ _ _ => ae_v 12)))))
      (ass_nil))
      (ass_cons (as_if (at_cmp ao_lt (ae_v 4) (ae_int))
      (ass_one (as_ret (ae_op (ao_add (K := K)) (ae_op (ao_add (K := K)) (ae_cut (K := K) (ae_v 3) ao_none (ao_some (ae_v 5))) (ae_lst (aa_cons (ae_tup (aa_cons (ae_call (K := K) (g := ⟨w, mg⟩) c_law_draw hr hgd (aa_cons (ae_v 0) (aa_cons (ae_v 6) (aa_nil)))) (aa_cons (ae_call (K := K) (g := ⟨w, mg⟩) c_law_draw hr hgd (aa_cons (ae_v 0) (aa_cons (ae_op ao_mul (ae_int) (ae_v 6)) (aa_nil)))) (aa_nil)))) (aa_nil)))) (ae_cut (K := K) (ae_v 3) (ao_some (ae_v 5)) ao_none))))
      (ass_nil))
      (ass_cons (as_if (at_cmp (ao_eq (K := K) hr.units) (ae_v 4) (ae_int))
      (ass_cons (as_set 8 sc_law_bent.nd (ae_ix (K := K) (ae_lst (aa_cons (ae_tup (aa_cons (ae_non) (aa_cons (ae_call (K := K) (g := ⟨w, mg⟩) c_law_draw hr hgd (aa_cons (ae_v 0) (aa_cons (ae_op ao_mul (ae_int) (ae_v 6)) (aa_nil)))) (aa_nil)))) (aa_cons (ae_tup (aa_cons (ae_call (K := K) (g := ⟨w, mg⟩) c_law_draw hr hgd (aa_cons (ae_v 0) (aa_cons (ae_v 6) (aa_nil)))) (aa_cons (ae_non) (aa_nil)))) (aa_cons (ae_tup (aa_cons (ae_non) (aa_cons (ae_non) (aa_nil)))) (aa_nil))))) (ae_call (K := K) (g := ⟨w, mg⟩) c_law_draw hr hgd (aa_cons (ae_v 0) (aa_cons (ae_int) (aa_nil))))) rfl (.inl rfl))
      (ass_one (as_ret (ae_op (ao_add (K := K)) (ae_op (ao_add (K := K)) (ae_cut (K := K) (ae_v 3) ao_none (ao_some (ae_v 5))) (ae_lst (aa_cons (ae_v 8) (aa_nil)))) (ae_cut (K := K) (ae_v 3) (ao_some (ae_v 5)) ao_none)))))
      (ass_nil))
      (ass_cons (as_if (at_cmp (ao_eq (K := K) hr.units) (ae_v 4) (ae_int))
      (ass_cons (as_set 9 sc_law_bent.nd (ae_ix (K := K) (ae_lst (aa_cons (ae_v 1) (aa_cons (ae_v 2) (aa_nil)))) (ae_call (K := K) (g := ⟨w, mg⟩) c_law_draw hr hgd (aa_cons (ae_v 0) (aa_cons (ae_int) (aa_nil))))) rfl (.inl rfl))
      (ass_cons (as_set 10 sc_law_bent.nd (ae_call (K := K) (g := ⟨w, mg⟩) c_law_draw hr hgd (aa_cons (ae_v 0) (aa_cons (ae_callB (ac_len (K := K)) m_len (by decide +kernel) (aa_cons (ae_ix (K := K) (ae_v 9) (ae_int)) (aa_nil))) (aa_nil)))) rfl (.inl rfl))
      (ass_one (as_setL (ae_not (K := K) (ae_ix (K := K) (ae_ix (K := K) (ae_v 9) (ae_int)) (ae_v 10))) (ae_ix (K := K) (ae_v 9) (ae_int)) (ae_v 10)))))
      (ass_nil))
      (ass_cons (as_if (at_cmp (ao_eq (K := K) hr.units) (ae_v 4) (ae_int))
      (ass_cons (as_set 9 sc_law_bent.nd (ae_ix (K := K) (ae_lst (aa_cons (ae_v 1) (aa_cons (ae_v 2) (aa_nil)))) (ae_call (K := K) (g := ⟨w, mg⟩) c_law_draw hr hgd (aa_cons (ae_v 0) (aa_cons (ae_int) (aa_nil))))) rfl (.inl rfl))
      (ass_cons (as_set 11 sc_law_bent.nd (ae_ix (K := K) (ae_ix (K := K) (ae_v 9) (ae_int)) (ae_call (K := K) (g := ⟨w, mg⟩) c_law_draw hr hgd (aa_cons (ae_v 0) (aa_cons (ae_callB (ac_len (K := K)) m_len (by decide +kernel) (aa_cons (ae_ix (K := K) (ae_v 9) (ae_int)) (aa_nil))) (aa_nil))))) rfl (.inl rfl))
      (ass_one (as_setL (ae_call (K := K) (g := ⟨w, mg⟩) c_law_goal hr hgd (aa_cons (ae_cmp (ao_eq (K := K) hr.units) (ae_call (K := K) (g := ⟨w, mg⟩) c_law_draw hr hgd (aa_cons (ae_v 0) (aa_cons (ae_int) (aa_nil)))) (ae_int)) (aa_cons (ae_call (K := K) (g := ⟨w, mg⟩) c_law_draw hr hgd (aa_cons (ae_v 0) (aa_cons (ae_callB (ac_len (K := K)) m_len (by decide +kernel) (aa_cons (ae_ix (K := K) (ae_v 9) (ae_int)) (aa_nil))) (aa_nil)))) (aa_nil)))) (ae_v 11) (ae_call (K := K) (g := ⟨w, mg⟩) c_law_draw hr hgd (aa_cons (ae_v 0) (aa_cons (ae_callB (ac_len (K := K)) m_len (by decide +kernel) (aa_cons (ae_v 11) (aa_nil))) (aa_nil))))))))
      (ass_nil))
      (ass_cons (as_if (at_cmp (ao_eq (K := K) hr.units) (ae_v 4) (ae_int))
      (ass_one (as_ret (ae_op (ao_add (K := K)) (ae_op (ao_add (K := K)) (ae_cut (K := K) (ae_v 3) ao_none (ao_some (ae_v 5))) (ae_lst (aa_cons (ae_call (K := K) (g := ⟨w, mg⟩) c_law_odd hr hgd (aa_cons (ae_ix (K := K) (ae_v 3) (ae_v 5)) (aa_cons (ae_call (K := K) (g := ⟨w, mg⟩) c_law_draw hr hgd (aa_cons (ae_v 0) (aa_cons (ae_int) (aa_nil)))) (aa_cons (ae_v 6) (aa_nil))))) (aa_nil)))) (ae_cut (K := K) (ae_v 3) (ao_some (ae_op (ao_add (K := K)) (ae_v 5) (ae_int))) ao_none))))
      (ass_nil))
      (ass_one (as_ret (ae_v 3)))))))))))⟩
abbrev st_are_pairs : Stmt := topS 8
theorem sc_are_pairs : FnScope ["one", "other", "thing", "pair"] ["one", "other", "thing"] (defScope st_are_pairs) := ⟨rfl, rfl, rfl, by decide +kernel, rfl, by decide +kernel, by decide +kernel⟩
theorem ok_are_pairs {P : Program} {w : World} {K : PySem.W.Frag} {mg : Str → Option Value} {base : Heap} {f : Addr} {fd : FuncData} (F : L2.Fun K "are_pairs" "are_pairs" st_are_pairs f fd) (hm : mg "are_pairs" = some (.ref f)) (hb : Binds K fd ["one", "other", "thing"] []) (m_isinstance : mg "isinstance" = none) (m_len : mg "len" = none) (m_list : mg "list" = none) (m_tuple : mg "tuple" = none) (c_is_place : Cal P w K mg base 2 "is_place" 2 s_is_place) : Cal P w K mg base 3 "are_pairs" 3 s_are_pairs := by
  refine calA (b := a_are_pairs) F sc_are_pairs rfl hm hb ?_ (fun _ _ _ _ h => h)
  intro cdv A outer s H E hr hgd
  have hw : (Bs.nil ⟨w, mg⟩).g = ⟨w, mg⟩ := rfl
  exact ⟨_, ass_cons (as_if (at_not (at_tru (K := K) (ae_isi (K := K) (ae_v 2) m_isinstance m_list (by decide +kernel))))
      (ass_one (as_ret (ae_bl)))
      (ass_nil))
      (ass_cons (as_for (ai_list (K := K) (ae_v 2)) (ag_name 3 (vs := [3]) sc_are_pairs.nd rfl (.inl rfl))
      (ass_cons (as_if (aw_t (aw_or (at_not (at_tru (K := K) (ae_isi (K := K) (ae_v 3) m_isinstance m_tuple (by decide +kernel)))) (aw_or1 (at_cmp (ao_ne (K := K) hr.units) (ae_callB (ac_len (K := K)) m_len (by decide +kernel) (aa_cons (ae_v 3) (aa_nil))) (ae_int)))))
      (ass_one (as_ret (ae_bl)))
      (ass_nil))
      (ass_one (as_if (aw_t (aw_or (at_not (at_tru (K := K) (ae_call (K := K) (g := ⟨w, mg⟩) c_is_place hr hgd (aa_cons (ae_v 0) (aa_cons (ae_ix (K := K) (ae_v 3) (ae_int)) (aa_nil)))))) (aw_or1 (at_not (at_tru (K := K) (ae_call (K := K) (g := ⟨w, mg⟩) c_is_place hr hgd (aa_cons (ae_v 1) (aa_cons (ae_ix (K := K) (ae_v 3) (ae_int)) (aa_nil)))))))))
      (ass_one (as_ret (ae_bl)))
      (ass_nil)))))
      (ass_one (as_ret (ae_cmp (ao_inDp (K := K) (hu65 hr)) (ae_tup (aa_cons (ae_int) (aa_cons (ae_int) (aa_nil)))) (ae_v 2)))))⟩
abbrev st_is_shut : Stmt := topS 9
theorem sc_is_shut : FnScope ["one", "other", "pairs", "whole", "pair", "known", "number", "later", "goes_on"] ["one", "other", "pairs", "whole"] (defScope st_is_shut) := ⟨rfl, rfl, rfl, by decide +kernel, rfl, by decide +kernel, by decide +kernel⟩
theorem ok_is_shut {P : Program} {w : World} {K : PySem.W.Frag} {mg : Str → Option Value} {base : Heap} {f : Addr} {fd : FuncData} (F : L2.Fun K "is_shut" "is_shut" st_is_shut f fd) (hm : mg "is_shut" = some (.ref f)) (hb : Binds K fd ["one", "other", "pairs", "whole"] []) (m_dict : mg "dict" = none) (m_len : mg "len" = none) (m_range : mg "range" = none) (c_led : Cal P w K mg base 1 "led" 3 s_led) (c_is_parted : Cal P w K mg base 2 "is_parted" 4 s_is_parted) : Cal P w K mg base 3 "is_shut" 4 s_is_shut := by
  refine calA (b := a_is_shut) F sc_is_shut rfl hm hb ?_ (fun _ _ _ _ h => h)
  intro cdv A outer s H E hr hgd
  have hw : (Bs.nil ⟨w, mg⟩).g = ⟨w, mg⟩ := rfl
  exact ⟨_, ass_cons (as_set 5 sc_is_shut.nd (ae_callT (ac_dictW (hu24 hr)) m_dict (by decide +kernel) (aa_cons (ae_lc [("pair", 4)] sc_is_shut.nd (ai_list (K := K) (ae_v 2)) (blkOk_by (own := [("pair", 4)]) (N := ["one", "other", "pairs", "whole", "pair", "known", "number", "later", "goes_on"]) (sc := defScope st_is_shut) (by decide +kernel)) (fun _ _ _ _ _ => ag_name 4 (vs := [4]) sc_is_shut.nd rfl (.inl rfl)) (fun _ _ _ _ _ => ats_nil) (fun _ _ _ _ _ => ae_tup (aa_cons (ae_v 4) (aa_cons (ae_bl) (aa_nil))))) (aa_nil))) rfl (.inl rfl))
      (ass_cons (as_for (ai_keysW (ae_v 5)) (ag_name 4 (vs := [4]) sc_is_shut.nd rfl (.inl rfl))
      (ass_cons (as_if (at_tru (K := K) (ae_call (K := K) (g := ⟨w, mg⟩) c_is_parted hr hgd (aa_cons (ae_v 0) (aa_cons (ae_v 1) (aa_cons (ae_v 4) (aa_cons (ae_v 3) (aa_nil)))))))
      (ass_one (as_ret (ae_bl)))
      (ass_nil))
      (ass_one (as_for (ai_range1 m_range (aa_cons (ae_callB (ac_len (K := K)) m_len (by decide +kernel) (aa_cons (ae_ix (K := K) (ae_ix (K := K) (ae_v 0) (ae_int)) (ae_int)) (aa_nil))) (aa_nil))) (ag_name 6 (vs := [6]) sc_is_shut.nd rfl (.inl rfl))
      (ass_cons (as_set 7 sc_is_shut.nd (ae_tup (aa_cons (ae_call (K := K) (g := ⟨w, mg⟩) c_led hr hgd (aa_cons (ae_v 0) (aa_cons (ae_ix (K := K) (ae_v 4) (ae_int)) (aa_cons (ae_v 6) (aa_nil))))) (aa_cons (ae_call (K := K) (g := ⟨w, mg⟩) c_led hr hgd (aa_cons (ae_v 1) (aa_cons (ae_ix (K := K) (ae_v 4) (ae_int)) (aa_cons (ae_v 6) (aa_nil))))) (aa_nil)))) rfl (.inl rfl))
      (ass_cons (as_set 8 sc_is_shut.nd (ae_or (K := K) (ae_cmp ao_isnot (ae_ix (K := K) (ae_v 7) (ae_int)) (ae_non)) (ae_one (ae_and (K := K) (ae_v 3) (ae_one (ae_cmp ao_isnot (ae_ix (K := K) (ae_v 7) (ae_int)) (ae_non)))))) rfl (.inl rfl))
      (ass_one (as_if (aw_t (aw_and (at_tru (K := K) (ae_v 8)) (aw_and1 (at_notInN (g := ⟨w, mg⟩) (hu16 hr) (ae_v 7) (ae_v 5)))))
      (ass_one (as_ret (ae_bl)))
      (ass_nil)))))))))
      (ass_one (as_ret (ae_bl))))⟩
abbrev st_law_hold : Stmt := topS 26
theorem sc_law_hold : FnScope ["_law_one", "_law_other", "_law_pairs", "_law_whole", "_law_known", "_law_pair", "_law_s", "_law_t", "_law_first", "_law_second", "_law_number", "_law_goal_here"] ["_law_one", "_law_other", "_law_pairs", "_law_whole"] (defScope st_law_hold) := ⟨rfl, rfl, rfl, by decide +kernel, rfl, by decide +kernel, by decide +kernel⟩
theorem ok_law_hold {P : Program} {w : World} {K : PySem.W.Frag} {mg : Str → Option Value} {base : Heap} {f : Addr} {fd : FuncData} (F : L2.Fun K "_law_hold" "_law_hold" st_law_hold f fd) (hm : mg "_law_hold" = some (.ref f)) (hb : Binds K fd ["_law_one", "_law_other", "_law_pairs", "_law_whole"] []) (m_len : mg "len" = none) (m_range : mg "range" = none) (c_law_led : Cal P w K mg base 1 "_law_led" 3 s_law_led) (c_law_is_end : Cal P w K mg base 1 "_law_is_end" 2 s_law_is_end) (c_law_are_pairs : Cal P w K mg base 2 "_law_are_pairs" 3 s_law_are_pairs) : Cal P w K mg base 3 "_law_hold" 4 s_law_hold := by
  refine calA (b := a_law_hold) F sc_law_hold rfl hm hb ?_ (fun _ _ _ _ h => h)
  intro cdv A outer s H E hr hgd
  have hw : (Bs.nil ⟨w, mg⟩).g = ⟨w, mg⟩ := rfl
  exact ⟨_, ass_cons (as_if (aw_t (aw_or (at_not (at_tru (K := K) (ae_call (K := K) (g := ⟨w, mg⟩) c_law_are_pairs hr hgd (aa_cons (ae_v 0) (aa_cons (ae_v 1) (aa_cons (ae_v 2) (aa_nil))))))) (aw_or1 (at_cmp (ao_ninDp (K := K) (hu65 hr)) (ae_tup (aa_cons (ae_int) (aa_cons (ae_int) (aa_nil)))) (ae_v 2)))))
      (ass_one (as_ret (ae_bl)))
      (ass_nil))
      (ass_cons (as_set 4 sc_law_hold.nd (ae_dict0N (g := ⟨w, mg⟩)) rfl (.inl rfl))
      (ass_cons (as_for (ai_list (K := K) (ae_v 2)) (ag_name 5 (vs := [5]) sc_law_hold.nd rfl (.inl rfl))
      (ass_one (as_putN (g := ⟨w, mg⟩) (hu16 hr) (ae_v 4) (ae_v 5) (ae_bl))))
      (ass_cons (as_for (ai_list (K := K) (ae_v 2)) (ag_tup (K := K) (ags_cons (ag_name 6 (vs := [6, 7]) sc_law_hold.nd rfl (.inl rfl)) (ags_cons (ag_name 7 (vs := [6, 7]) sc_law_hold.nd rfl (.inl rfl)) (ags_nil))))
      (ass_cons (as_set 8 sc_law_hold.nd (ae_call (K := K) (g := ⟨w, mg⟩) c_law_is_end hr hgd (aa_cons (ae_v 0) (aa_cons (ae_v 6) (aa_nil)))) rfl (.inl rfl))
      (ass_cons (as_set 9 sc_law_hold.nd (ae_call (K := K) (g := ⟨w, mg⟩) c_law_is_end hr hgd (aa_cons (ae_v 1) (aa_cons (ae_v 7) (aa_nil)))) rfl (.inl rfl))
      (ass_cons (as_if (aw_t (aw_or (aw_t (aw_and (at_tru (K := K) (ae_v 8)) (aw_and1 (at_not (at_tru (K := K) (ae_v 9)))))) (aw_or (aw_t (aw_and (at_tru (K := K) (ae_v 3)) (aw_and (at_tru (K := K) (ae_v 9)) (aw_and1 (at_not (at_tru (K := K) (ae_v 8))))))) (aw_or1 (aw_t (aw_and (at_not (at_tru (K := K) (ae_v 3))) (aw_and1 (at_cmp ao_is (ae_v 6) (ae_non)))))))))
      (ass_one (as_ret (ae_bl)))
      (ass_nil))
      (ass_one (as_for (ai_range1 m_range (aa_cons (ae_callB (ac_len (K := K)) m_len (by decide +kernel) (aa_cons (ae_ix (K := K) (ae_ix (K := K) (ae_v 0) (ae_int)) (ae_int)) (aa_nil))) (aa_nil))) (ag_name 10 (vs := [10]) sc_law_hold.nd rfl (.inl rfl))
      (ass_cons (as_set 11 sc_law_hold.nd (ae_tup (aa_cons (ae_call (K := K) (g := ⟨w, mg⟩) c_law_led hr hgd (aa_cons (ae_v 0) (aa_cons (ae_v 6) (aa_cons (ae_v 10) (aa_nil))))) (aa_cons (ae_call (K := K) (g := ⟨w, mg⟩) c_law_led hr hgd (aa_cons (ae_v 1) (aa_cons (ae_v 7) (aa_cons (ae_v 10) (aa_nil))))) (aa_nil)))) rfl (.inl rfl))
      (ass_one (as_if (aw_t (aw_and (at_notInN (g := ⟨w, mg⟩) (hu16 hr) (ae_v 11) (ae_v 4)) (aw_and1 (aw_t (aw_or (at_cmp ao_isnot (ae_ix (K := K) (ae_v 11) (ae_int)) (ae_non)) (aw_or1 (aw_t (aw_and (at_tru (K := K) (ae_v 3)) (aw_and1 (at_cmp ao_isnot (ae_ix (K := K) (ae_v 11) (ae_int)) (ae_non)))))))))))
      (ass_one (as_ret (ae_bl)))
      (ass_nil))))))))))
      (ass_one (as_ret (ae_bl))))))⟩
abbrev st_holds_alike : Stmt := topS 10
theorem sc_holds_alike : FnScope ["one", "other", "pairs"] ["one", "other", "pairs"] (defScope st_holds_alike) := ⟨rfl, rfl, rfl, by decide +kernel, rfl, by decide +kernel, by decide +kernel⟩
theorem ok_holds_alike {P : Program} {w : World} {K : PySem.W.Frag} {mg : Str → Option Value} {base : Heap} {f : Addr} {fd : FuncData} (F : L2.Fun K "holds_alike" "holds_alike" st_holds_alike f fd) (hm : mg "holds_alike" = some (.ref f)) (hb : Binds K fd ["one", "other", "pairs"] []) (c_are_pairs : Cal P w K mg base 3 "are_pairs" 3 s_are_pairs) (c_is_shut : Cal P w K mg base 3 "is_shut" 4 s_is_shut) : Cal P w K mg base 4 "holds_alike" 3 s_holds_alike := by
  refine calA (b := a_holds_alike) F sc_holds_alike rfl hm hb ?_ (fun _ _ _ _ h => h)
  intro cdv A outer s H E hr hgd
  have hw : (Bs.nil ⟨w, mg⟩).g = ⟨w, mg⟩ := rfl
  exact ⟨_, ass_one (as_ret (ae_and (K := K) (ae_call (K := K) (g := ⟨w, mg⟩) c_are_pairs hr hgd (aa_cons (ae_v 0) (aa_cons (ae_v 1) (aa_cons (ae_v 2) (aa_nil))))) (ae_one (ae_call (K := K) (g := ⟨w, mg⟩) c_is_shut hr hgd (aa_cons (ae_v 0) (aa_cons (ae_v 1) (aa_cons (ae_v 2) (aa_cons (ae_bl) (aa_nil)))))))))⟩
abbrev st_holds_within : Stmt := topS 11
theorem sc_holds_within : FnScope ["one", "other", "pairs", "pair"] ["one", "other", "pairs"] (defScope st_holds_within) := ⟨rfl, rfl, rfl, by decide +kernel, rfl, by decide +kernel, by decide +kernel⟩
theorem ok_holds_within {P : Program} {w : World} {K : PySem.W.Frag} {mg : Str → Option Value} {base : Heap} {f : Addr} {fd : FuncData} (F : L2.Fun K "holds_within" "holds_within" st_holds_within f fd) (hm : mg "holds_within" = some (.ref f)) (hb : Binds K fd ["one", "other", "pairs"] []) (c_are_pairs : Cal P w K mg base 3 "are_pairs" 3 s_are_pairs) (c_is_shut : Cal P w K mg base 3 "is_shut" 4 s_is_shut) : Cal P w K mg base 4 "holds_within" 3 s_holds_within := by
  refine calA (b := a_holds_within) F sc_holds_within rfl hm hb ?_ (fun _ _ _ _ h => h)
  intro cdv A outer s H E hr hgd
  have hw : (Bs.nil ⟨w, mg⟩).g = ⟨w, mg⟩ := rfl
  exact ⟨_, ass_cons (as_if (aw_t (aw_or (at_not (at_tru (K := K) (ae_call (K := K) (g := ⟨w, mg⟩) c_are_pairs hr hgd (aa_cons (ae_v 0) (aa_cons (ae_v 1) (aa_cons (ae_v 2) (aa_nil))))))) (aw_or1 (at_cmp ao_inL (ae_non) (ae_lc [("pair", 3)] sc_holds_within.nd (ai_list (K := K) (ae_v 2)) (blkOk_by (own := [("pair", 3)]) (N := ["one", "other", "pairs", "pair"]) (sc := defScope st_holds_within) (by decide +kernel)) (fun _ _ _ _ _ => ag_name 3 (vs := [3]) sc_holds_within.nd rfl (.inl rfl)) (fun _ _ _ _ _ => ats_nil) (fun _ _ _ _ _ => ae_ix (K := K) (ae_v 3) (ae_int)))))))
      (ass_one (as_ret (ae_bl)))
      (ass_nil))
      (ass_one (as_ret (ae_call (K := K) (g := ⟨w, mg⟩) c_is_shut hr hgd (aa_cons (ae_v 0) (aa_cons (ae_v 1) (aa_cons (ae_v 2) (aa_cons (ae_bl) (aa_nil))))))))⟩
abbrev st_law_asked : Stmt := topS 30
theorem sc_law_asked : FnScope ["_law_one", "_law_other", "_law_pairs", "_law_machines", "_law_handed", "_law_whole", "_law_told"] ["_law_one", "_law_other", "_law_pairs"] (defScope st_law_asked) := ⟨rfl, rfl, rfl, by decide +kernel, rfl, by decide +kernel, by decide +kernel⟩
theorem ok_law_asked {P : Program} {w : World} {K : PySem.W.Frag} {mg : Str → Option Value} {base : Heap} {f : Addr} {fd : FuncData} (F : L2.Fun K "_law_asked" "_law_asked" st_law_asked f fd) (hm : mg "_law_asked" = some (.ref f)) (hb : Binds K fd ["_law_one", "_law_other", "_law_pairs"] []) (m_bool : mg "bool" = none) (m_isinstance : mg "isinstance" = none) (m_list : mg "list" = none) (c_law_copied : Cal P w K mg base 1 "_law_copied" 1 s_law_copied) (c_law_hold : Cal P w K mg base 3 "_law_hold" 4 s_law_hold) (c_holds_alike : Cal P w K mg base 4 "holds_alike" 3 s_holds_alike) (c_holds_within : Cal P w K mg base 4 "holds_within" 3 s_holds_within) : Cal P w K mg base 5 "_law_asked" 3 s_law_asked := by
  refine calA (b := a_law_asked) F sc_law_asked rfl hm hb ?_ (fun _ _ _ _ h => h)
  intro cdv A outer s H E hr hgd
  have hw : (Bs.nil ⟨w, mg⟩).g = ⟨w, mg⟩ := rfl
  exact ⟨_, ass_cons (as_set 3 sc_law_asked.nd (ae_tup (aa_cons (ae_call (K := K) (g := ⟨w, mg⟩) c_law_copied hr hgd (aa_cons (ae_v 0) (aa_nil))) (aa_cons (ae_call (K := K) (g := ⟨w, mg⟩) c_law_copied hr hgd (aa_cons (ae_v 1) (aa_nil))) (aa_nil)))) rfl (.inl rfl))
      (ass_cons (as_set 4 sc_law_asked.nd (ae_callT (ac_list (K := K)) m_list (by decide +kernel) (aa_cons (ae_v 2) (aa_nil))) rfl (.inl rfl))
      (ass_cons (as_for (ai_list (K := K) (ae_lst (aa_cons (ae_tup (aa_cons (ae_bl) (aa_cons (ae_call (K := K) (g := ⟨w, mg⟩) c_holds_alike hr hgd (aa_cons (ae_v 0) (aa_cons (ae_v 1) (aa_cons (ae_v 4) (aa_nil))))) (aa_nil)))) (aa_cons (ae_tup (aa_cons (ae_bl) (aa_cons (ae_call (K := K) (g := ⟨w, mg⟩) c_holds_within hr hgd (aa_cons (ae_v 0) (aa_cons (ae_v 1) (aa_cons (ae_v 4) (aa_nil))))) (aa_nil)))) (aa_nil))))) (ag_tup (K := K) (ags_cons (ag_name 5 (vs := [5, 6]) sc_law_asked.nd rfl (.inl rfl)) (ags_cons (ag_name 6 (vs := [5, 6]) sc_law_asked.nd rfl (.inl rfl)) (ags_nil))))
      (ass_one (as_if (aw_t (aw_or (at_not (at_tru (K := K) (ae_isi (K := K) (ae_v 6) m_isinstance m_bool (by decide +kernel)))) (aw_or1 (at_cmp (ao_ne (K := K) hr.units) (ae_v 6) (ae_call (K := K) (g := ⟨w, mg⟩) c_law_hold hr hgd (aa_cons (ae_v 0) (aa_cons (ae_v 1) (aa_cons (ae_v 2) (aa_cons (ae_v 5) (aa_nil))))))))))
      (ass_one (as_ret (ae_bl)))
      (ass_nil))))
      (ass_one (as_ret (ae_and (K := K) (ae_cmp (ao_eqX (K := K) hr.units) (ae_v 4) (ae_v 2)) (ae_one (ae_cmp (ao_eqX (K := K) hr.units) (ae_tup (aa_cons (ae_v 0) (aa_cons (ae_v 1) (aa_nil)))) (ae_v 3))))))))⟩
abbrev st_law : Stmt := topS 32
theorem sc_law : FnScope ["_law_script", "_law_k", "_law_pen_here", "_law_one", "_law_other", "_law_pairs", "_law_stand", "_law_thing", "_law_pair"] ["_law_script"] (defScope st_law) := ⟨rfl, rfl, rfl, by decide +kernel, rfl, by decide +kernel, by decide +kernel⟩
theorem okF_law {P : Program} {w : World} {K : PySem.W.Frag} {mg : Str → Option Value} {base : Heap} {f : Addr} {fd : FuncData} (F : L2.Fun K "law" "law" st_law f fd) (m_len : mg "len" = none) (m_range : mg "range" = none) (m_tuple : mg "tuple" = none) (c_law_pen : Cal P w K mg base 1 "_law_pen" 2 s_law_pen) (c_law_draw : Cal P w K mg base 1 "_law_draw" 2 s_law_draw) (c_law_turned : Cal P w K mg base 1 "_law_turned" 1 s_law_turned) (c_law_machine : Cal P w K mg base 2 "_law_machine" 3 s_law_machine) (c_law_doubled : Cal P w K mg base 2 "_law_doubled" 3 s_law_doubled) (c_law_mixed : Cal P w K mg base 2 "_law_mixed" 2 s_law_mixed) (c_law_bent : Cal P w K mg base 2 "_law_bent" 4 s_law_bent) (c_holds_alike : Cal P w K mg base 4 "holds_alike" 3 s_holds_alike) (c_holds_within : Cal P w K mg base 4 "holds_within" 3 s_holds_within) (c_law_asked : Cal P w K mg base 5 "_law_asked" 3 s_law_asked) : FnG P w K mg base 6 f fd ["_law_script"] (spOf ⟨w, mg⟩ K 1 s_law) := by
  refine fnA (b := a_law) F sc_law ?_ (fun _ _ _ _ h => h)
  intro cdv A outer s H E hr hgd
  have hw : (Bs.nil ⟨w, mg⟩).g = ⟨w, mg⟩ := rfl
  exact ⟨_, ass_cons (as_for (ai_range1 m_range (aa_cons (ae_int) (aa_nil))) (ag_name 1 (vs := [1]) sc_law.nd rfl (.inl rfl))
      (ass_cons (as_set 2 sc_law.nd (ae_call (K := K) (g := ⟨w, mg⟩) c_law_pen hr hgd (aa_cons (ae_v 0) (aa_cons (ae_v 1) (aa_nil)))) rfl (.inl rfl))
      (ass_cons (as_set 3 sc_law.nd (ae_call (K := K) (g := ⟨w, mg⟩) c_law_machine hr hgd (aa_cons (ae_v 2) (aa_cons (ae_op (ao_add (K := K)) (ae_int) (ae_call (K := K) (g := ⟨w, mg⟩) c_law_draw hr hgd (aa_cons (ae_v 2) (aa_cons (ae_ix (K := K) (ae_lst (aa_cons (ae_int) (aa_cons (ae_int) (aa_cons (ae_int) (aa_cons (ae_int) (aa_nil)))))) (ae_call (K := K) (g := ⟨w, mg⟩) c_law_draw hr hgd (aa_cons (ae_v 2) (aa_cons (ae_int) (aa_nil))))) (aa_nil))))) (aa_cons (ae_int) (aa_nil))))) rfl (.inl rfl))
      (ass_cons (as_set 4 sc_law.nd (ae_call (K := K) (g := ⟨w, mg⟩) c_law_doubled hr hgd (aa_cons (ae_v 2) (aa_cons (ae_v 3) (aa_cons (ae_int) (aa_nil))))) rfl (.inl rfl))
      (ass_cons (as_set 5 sc_law.nd (ae_lst (aa_nil)) rfl (.inl rfl))
      (ass_cons (as_for (ai_range1 m_range (aa_cons (ae_callB (ac_len (K := K)) m_len (by decide +kernel) (aa_cons (ae_ix (K := K) (ae_v 3) (ae_int)) (aa_nil))) (aa_nil))) (ag_name 6 (vs := [6]) sc_law.nd rfl (.inl rfl))
      (ass_one (as_set 5 sc_law.nd (ae_op (ao_add (K := K)) (ae_v 5) (ae_lst (aa_cons (ae_tup (aa_cons (ae_v 6) (aa_cons (ae_op ao_mul (ae_int) (ae_v 6)) (aa_nil)))) (aa_cons (ae_tup (aa_cons (ae_v 6) (aa_cons (ae_op (ao_add (K := K)) (ae_op ao_mul (ae_int) (ae_v 6)) (ae_int)) (aa_nil)))) (aa_nil))))) rfl (.inl rfl))))
      (ass_cons (as_set 5 sc_law.nd (ae_call (K := K) (g := ⟨w, mg⟩) c_law_mixed hr hgd (aa_cons (ae_v 2) (aa_cons (ae_op (ao_add (K := K)) (ae_v 5) (ae_op ao_repL (ae_lst (aa_cons (ae_tup (aa_cons (ae_non) (aa_cons (ae_non) (aa_nil)))) (aa_nil))) (ae_call (K := K) (g := ⟨w, mg⟩) c_law_draw hr hgd (aa_cons (ae_v 2) (aa_cons (ae_int) (aa_nil)))))) (aa_nil)))) rfl (.inl rfl))
      (ass_cons (as_if (at_not (at_tru (K := K) (ae_call (K := K) (g := ⟨w, mg⟩) c_law_asked hr hgd (aa_cons (ae_v 3) (aa_cons (ae_v 4) (aa_cons (ae_v 5) (aa_nil)))))))
      (ass_one (as_ret (ae_bl)))
      (ass_nil))
      (ass_cons (as_set 5 sc_law.nd (ae_call (K := K) (g := ⟨w, mg⟩) c_law_bent hr hgd (aa_cons (ae_v 2) (aa_cons (ae_v 3) (aa_cons (ae_v 4) (aa_cons (ae_v 5) (aa_nil)))))) rfl (.inl rfl))
      (ass_cons (as_if (aw_t (aw_or (at_not (at_tru (K := K) (ae_call (K := K) (g := ⟨w, mg⟩) c_law_asked hr hgd (aa_cons (ae_v 3) (aa_cons (ae_v 4) (aa_cons (ae_v 5) (aa_nil))))))) (aw_or1 (at_not (at_tru (K := K) (ae_call (K := K) (g := ⟨w, mg⟩) c_law_asked hr hgd (aa_cons (ae_v 4) (aa_cons (ae_v 3) (aa_cons (ae_lc [("_law_pair", 8)] sc_law.nd (ai_list (K := K) (ae_v 5)) (blkOk_by (own := [("_law_pair", 8)]) (N := ["_law_script", "_law_k", "_law_pen_here", "_law_one", "_law_other", "_law_pairs", "_law_stand", "_law_thing", "_law_pair"]) (sc := defScope st_law) (by decide +kernel)) (fun _ _ _ _ _ => ag_name 8 (vs := [8]) sc_law.nd rfl (.inl rfl)) (fun _ _ _ _ _ => ats_nil) (fun _ _ _ _ _ => ae_call (K := K) (g := ⟨w, mg⟩) c_law_turned hr hgd (aa_cons (ae_v 8) (aa_nil)))) (aa_nil))))))))))
      (ass_one (as_ret (ae_bl)))
      (ass_nil))
      (ass_one (as_for (ai_list (K := K) (ae_lst (aa_cons (ae_non) (aa_cons (ae_callT (ac_tuple (K := K)) m_tuple (by decide +kernel) (aa_cons (ae_v 5) (aa_nil))) (aa_cons (ae_dict0F) (aa_cons (ae_str) (aa_cons (ae_int) (aa_cons (ae_bl) (aa_cons (ae_lst (aa_cons (ae_v 5) (aa_nil))) (aa_nil)))))))))) (ag_name 7 (vs := [7]) sc_law.nd rfl (.inl rfl))
      (ass_one (as_if (aw_t (aw_or (at_cmp ao_isnotB (ae_call (K := K) (g := ⟨w, mg⟩) c_holds_alike hr hgd (aa_cons (ae_v 3) (aa_cons (ae_v 4) (aa_cons (ae_v 7) (aa_nil))))) (ae_bl)) (aw_or1 (at_cmp ao_isnotB (ae_call (K := K) (g := ⟨w, mg⟩) c_holds_within hr hgd (aa_cons (ae_v 3) (aa_cons (ae_v 4) (aa_cons (ae_v 7) (aa_nil))))) (ae_bl)))))
      (ass_one (as_ret (ae_bl)))
      (ass_nil)))))))))))))))
      (ass_one (as_ret (ae_bl)))⟩
theorem all_mk {l : PySem.W.OpenLaw} {w : World} {K : PySem.W.Frag} {h : Heap} {mg : Str → Option Value} {fa f1 f2 f3 f4 f5 f6 f7 f8 f9 f10 f11 f12 f13 f14 f15 f16 f17 f18 f19 f20 f21 f22 f23 f24 f25 f26 f27 : Addr} (X : K.In h) (G : h.Ns mainGlobals mg) (hfa : mg "law" = some (.ref fa))
    {od1 an1 od2 an2 od3 an3 od4 an4 od5 an5 od6 an6 od7 an7 od8 an8 od9 an9 od10 an10 od11 an11 od12 an12 od13 an13 od14 an14 od15 an15 od16 an16 od17 an17 od18 an18 od19 an19 od20 an20 od21 an21 od22 an22 od23 an23 od24 an24 od25 an25 od26 an26 od27 an27 : Option Addr} {sl1 sl2 sl3 sl4 sl5 sl6 sl7 sl8 sl9 sl10 sl11 sl12 sl13 sl14 sl15 sl16 sl17 sl18 sl19 sl20 sl21 sl22 sl23 sl24 sl25 sl26 sl27 : Array (Option Value)} {oc1 kV1 dc1 pm1 cd1 ct1 oc2 kV2 dc2 pm2 cd2 ct2 oc3 kV3 dc3 pm3 cd3 ct3 oc4 kV4 dc4 pm4 cd4 ct4 oc5 kV5 dc5 pm5 cd5 ct5 oc6 kV6 dc6 pm6 cd6 ct6 oc7 kV7 dc7 pm7 cd7 ct7 oc8 kV8 dc8 pm8 cd8 ct8 oc9 kV9 dc9 pm9 cd9 ct9 oc10 kV10 dc10 pm10 cd10 ct10 oc11 kV11 dc11 pm11 cd11 ct11 oc12 kV12 dc12 pm12 cd12 ct12 oc13 kV13 dc13 pm13 cd13 ct13 oc14 kV14 dc14 pm14 cd14 ct14 oc15 kV15 dc15 pm15 cd15 ct15 oc16 kV16 dc16 pm16 cd16 ct16 oc17 kV17 dc17 pm17 cd17 ct17 oc18 kV18 dc18 pm18 cd18 ct18 oc19 kV19 dc19 pm19 cd19 ct19 oc20 kV20 dc20 pm20 cd20 ct20 oc21 kV21 dc21 pm21 cd21 ct21 oc22 kV22 dc22 pm22 cd22 ct22 oc23 kV23 dc23 pm23 cd23 ct23 oc24 kV24 dc24 pm24 cd24 ct24 oc25 kV25 dc25 pm25 cd25 ct25 oc26 kV26 dc26 pm26 cd26 ct26 oc27 kV27 dc27 pm27 cd27 ct27 : Value}
    (a1 : PySem.W.nsIn K mainGlobals "is_whole" = some (some (.ref f1))) (l1 : K.lookup f1 = some ⟨oc1, od1, .func (PySem.W.fnOf "is_whole" "is_whole" (defArgs st_is_whole) (defBody st_is_whole) (defScope st_is_whole) .none kV1 dc1 pm1 an1 cd1 ct1), sl1⟩) (c1 : PySem.W.codeIn K cd1 "is_whole" = true) (k1 : PySem.W.keepIn K (.ref f1) = true)
    (a2 : PySem.W.nsIn K mainGlobals "led" = some (some (.ref f2))) (l2 : K.lookup f2 = some ⟨oc2, od2, .func (PySem.W.fnOf "led" "led" (defArgs st_led) (defBody st_led) (defScope st_led) .none kV2 dc2 pm2 an2 cd2 ct2), sl2⟩) (c2 : PySem.W.codeIn K cd2 "led" = true) (k2 : PySem.W.keepIn K (.ref f2) = true)
    (a3 : PySem.W.nsIn K mainGlobals "is_end" = some (some (.ref f3))) (l3 : K.lookup f3 = some ⟨oc3, od3, .func (PySem.W.fnOf "is_end" "is_end" (defArgs st_is_end) (defBody st_is_end) (defScope st_is_end) .none kV3 dc3 pm3 an3 cd3 ct3), sl3⟩) (c3 : PySem.W.codeIn K cd3 "is_end" = true) (k3 : PySem.W.keepIn K (.ref f3) = true)
    (a4 : PySem.W.nsIn K mainGlobals "_law_pen" = some (some (.ref f4))) (l4 : K.lookup f4 = some ⟨oc4, od4, .func (PySem.W.fnOf "_law_pen" "_law_pen" (defArgs st_law_pen) (defBody st_law_pen) (defScope st_law_pen) .none kV4 dc4 pm4 an4 cd4 ct4), sl4⟩) (c4 : PySem.W.codeIn K cd4 "_law_pen" = true) (k4 : PySem.W.keepIn K (.ref f4) = true)
    (a5 : PySem.W.nsIn K mainGlobals "_law_draw" = some (some (.ref f5))) (l5 : K.lookup f5 = some ⟨oc5, od5, .func (PySem.W.fnOf "_law_draw" "_law_draw" (defArgs st_law_draw) (defBody st_law_draw) (defScope st_law_draw) .none kV5 dc5 pm5 an5 cd5 ct5), sl5⟩) (c5 : PySem.W.codeIn K cd5 "_law_draw" = true) (k5 : PySem.W.keepIn K (.ref f5) = true)
    (a6 : PySem.W.nsIn K mainGlobals "_law_goal" = some (some (.ref f6))) (l6 : K.lookup f6 = some ⟨oc6, od6, .func (PySem.W.fnOf "_law_goal" "_law_goal" (defArgs st_law_goal) (defBody st_law_goal) (defScope st_law_goal) .none kV6 dc6 pm6 an6 cd6 ct6), sl6⟩) (c6 : PySem.W.codeIn K cd6 "_law_goal" = true) (k6 : PySem.W.keepIn K (.ref f6) = true)
    (a7 : PySem.W.nsIn K mainGlobals "_law_led" = some (some (.ref f7))) (l7 : K.lookup f7 = some ⟨oc7, od7, .func (PySem.W.fnOf "_law_led" "_law_led" (defArgs st_law_led) (defBody st_law_led) (defScope st_law_led) .none kV7 dc7 pm7 an7 cd7 ct7), sl7⟩) (c7 : PySem.W.codeIn K cd7 "_law_led" = true) (k7 : PySem.W.keepIn K (.ref f7) = true)
    (a8 : PySem.W.nsIn K mainGlobals "_law_is_end" = some (some (.ref f8))) (l8 : K.lookup f8 = some ⟨oc8, od8, .func (PySem.W.fnOf "_law_is_end" "_law_is_end" (defArgs st_law_is_end) (defBody st_law_is_end) (defScope st_law_is_end) .none kV8 dc8 pm8 an8 cd8 ct8), sl8⟩) (c8 : PySem.W.codeIn K cd8 "_law_is_end" = true) (k8 : PySem.W.keepIn K (.ref f8) = true)
    (a9 : PySem.W.nsIn K mainGlobals "_law_copied" = some (some (.ref f9))) (l9 : K.lookup f9 = some ⟨oc9, od9, .func (PySem.W.fnOf "_law_copied" "_law_copied" (defArgs st_law_copied) (defBody st_law_copied) (defScope st_law_copied) .none kV9 dc9 pm9 an9 cd9 ct9), sl9⟩) (c9 : PySem.W.codeIn K cd9 "_law_copied" = true) (k9 : PySem.W.keepIn K (.ref f9) = true)
    (a10 : PySem.W.nsIn K mainGlobals "_law_twin" = some (some (.ref f10))) (l10 : K.lookup f10 = some ⟨oc10, od10, .func (PySem.W.fnOf "_law_twin" "_law_twin" (defArgs st_law_twin) (defBody st_law_twin) (defScope st_law_twin) .none kV10 dc10 pm10 an10 cd10 ct10), sl10⟩) (c10 : PySem.W.codeIn K cd10 "_law_twin" = true) (k10 : PySem.W.keepIn K (.ref f10) = true)
    (a11 : PySem.W.nsIn K mainGlobals "_law_is_place" = some (some (.ref f11))) (l11 : K.lookup f11 = some ⟨oc11, od11, .func (PySem.W.fnOf "_law_is_place" "_law_is_place" (defArgs st_law_is_place) (defBody st_law_is_place) (defScope st_law_is_place) .none kV11 dc11 pm11 an11 cd11 ct11), sl11⟩) (c11 : PySem.W.codeIn K cd11 "_law_is_place" = true) (k11 : PySem.W.keepIn K (.ref f11) = true)
    (a12 : PySem.W.nsIn K mainGlobals "_law_odd" = some (some (.ref f12))) (l12 : K.lookup f12 = some ⟨oc12, od12, .func (PySem.W.fnOf "_law_odd" "_law_odd" (defArgs st_law_odd) (defBody st_law_odd) (defScope st_law_odd) .none kV12 dc12 pm12 an12 cd12 ct12), sl12⟩) (c12 : PySem.W.codeIn K cd12 "_law_odd" = true) (k12 : PySem.W.keepIn K (.ref f12) = true)
    (a13 : PySem.W.nsIn K mainGlobals "_law_turned" = some (some (.ref f13))) (l13 : K.lookup f13 = some ⟨oc13, od13, .func (PySem.W.fnOf "_law_turned" "_law_turned" (defArgs st_law_turned) (defBody st_law_turned) (defScope st_law_turned) .none kV13 dc13 pm13 an13 cd13 ct13), sl13⟩) (c13 : PySem.W.codeIn K cd13 "_law_turned" = true) (k13 : PySem.W.keepIn K (.ref f13) = true)
    (a14 : PySem.W.nsIn K mainGlobals "is_parted" = some (some (.ref f14))) (l14 : K.lookup f14 = some ⟨oc14, od14, .func (PySem.W.fnOf "is_parted" "is_parted" (defArgs st_is_parted) (defBody st_is_parted) (defScope st_is_parted) .none kV14 dc14 pm14 an14 cd14 ct14), sl14⟩) (c14 : PySem.W.codeIn K cd14 "is_parted" = true) (k14 : PySem.W.keepIn K (.ref f14) = true)
    (a15 : PySem.W.nsIn K mainGlobals "is_place" = some (some (.ref f15))) (l15 : K.lookup f15 = some ⟨oc15, od15, .func (PySem.W.fnOf "is_place" "is_place" (defArgs st_is_place) (defBody st_is_place) (defScope st_is_place) .none kV15 dc15 pm15 an15 cd15 ct15), sl15⟩) (c15 : PySem.W.codeIn K cd15 "is_place" = true) (k15 : PySem.W.keepIn K (.ref f15) = true)
    (a16 : PySem.W.nsIn K mainGlobals "_law_machine" = some (some (.ref f16))) (l16 : K.lookup f16 = some ⟨oc16, od16, .func (PySem.W.fnOf "_law_machine" "_law_machine" (defArgs st_law_machine) (defBody st_law_machine) (defScope st_law_machine) .none kV16 dc16 pm16 an16 cd16 ct16), sl16⟩) (c16 : PySem.W.codeIn K cd16 "_law_machine" = true) (k16 : PySem.W.keepIn K (.ref f16) = true)
    (a17 : PySem.W.nsIn K mainGlobals "_law_doubled" = some (some (.ref f17))) (l17 : K.lookup f17 = some ⟨oc17, od17, .func (PySem.W.fnOf "_law_doubled" "_law_doubled" (defArgs st_law_doubled) (defBody st_law_doubled) (defScope st_law_doubled) .none kV17 dc17 pm17 an17 cd17 ct17), sl17⟩) (c17 : PySem.W.codeIn K cd17 "_law_doubled" = true) (k17 : PySem.W.keepIn K (.ref f17) = true)
    (a18 : PySem.W.nsIn K mainGlobals "_law_are_pairs" = some (some (.ref f18))) (l18 : K.lookup f18 = some ⟨oc18, od18, .func (PySem.W.fnOf "_law_are_pairs" "_law_are_pairs" (defArgs st_law_are_pairs) (defBody st_law_are_pairs) (defScope st_law_are_pairs) .none kV18 dc18 pm18 an18 cd18 ct18), sl18⟩) (c18 : PySem.W.codeIn K cd18 "_law_are_pairs" = true) (k18 : PySem.W.keepIn K (.ref f18) = true)
    (a19 : PySem.W.nsIn K mainGlobals "_law_mixed" = some (some (.ref f19))) (l19 : K.lookup f19 = some ⟨oc19, od19, .func (PySem.W.fnOf "_law_mixed" "_law_mixed" (defArgs st_law_mixed) (defBody st_law_mixed) (defScope st_law_mixed) .none kV19 dc19 pm19 an19 cd19 ct19), sl19⟩) (c19 : PySem.W.codeIn K cd19 "_law_mixed" = true) (k19 : PySem.W.keepIn K (.ref f19) = true)
    (a20 : PySem.W.nsIn K mainGlobals "_law_bent" = some (some (.ref f20))) (l20 : K.lookup f20 = some ⟨oc20, od20, .func (PySem.W.fnOf "_law_bent" "_law_bent" (defArgs st_law_bent) (defBody st_law_bent) (defScope st_law_bent) .none kV20 dc20 pm20 an20 cd20 ct20), sl20⟩) (c20 : PySem.W.codeIn K cd20 "_law_bent" = true) (k20 : PySem.W.keepIn K (.ref f20) = true)
    (a21 : PySem.W.nsIn K mainGlobals "are_pairs" = some (some (.ref f21))) (l21 : K.lookup f21 = some ⟨oc21, od21, .func (PySem.W.fnOf "are_pairs" "are_pairs" (defArgs st_are_pairs) (defBody st_are_pairs) (defScope st_are_pairs) .none kV21 dc21 pm21 an21 cd21 ct21), sl21⟩) (c21 : PySem.W.codeIn K cd21 "are_pairs" = true) (k21 : PySem.W.keepIn K (.ref f21) = true)
    (a22 : PySem.W.nsIn K mainGlobals "is_shut" = some (some (.ref f22))) (l22 : K.lookup f22 = some ⟨oc22, od22, .func (PySem.W.fnOf "is_shut" "is_shut" (defArgs st_is_shut) (defBody st_is_shut) (defScope st_is_shut) .none kV22 dc22 pm22 an22 cd22 ct22), sl22⟩) (c22 : PySem.W.codeIn K cd22 "is_shut" = true) (k22 : PySem.W.keepIn K (.ref f22) = true)
    (a23 : PySem.W.nsIn K mainGlobals "_law_hold" = some (some (.ref f23))) (l23 : K.lookup f23 = some ⟨oc23, od23, .func (PySem.W.fnOf "_law_hold" "_law_hold" (defArgs st_law_hold) (defBody st_law_hold) (defScope st_law_hold) .none kV23 dc23 pm23 an23 cd23 ct23), sl23⟩) (c23 : PySem.W.codeIn K cd23 "_law_hold" = true) (k23 : PySem.W.keepIn K (.ref f23) = true)
    (a24 : PySem.W.nsIn K mainGlobals "holds_alike" = some (some (.ref f24))) (l24 : K.lookup f24 = some ⟨oc24, od24, .func (PySem.W.fnOf "holds_alike" "holds_alike" (defArgs st_holds_alike) (defBody st_holds_alike) (defScope st_holds_alike) .none kV24 dc24 pm24 an24 cd24 ct24), sl24⟩) (c24 : PySem.W.codeIn K cd24 "holds_alike" = true) (k24 : PySem.W.keepIn K (.ref f24) = true)
    (a25 : PySem.W.nsIn K mainGlobals "holds_within" = some (some (.ref f25))) (l25 : K.lookup f25 = some ⟨oc25, od25, .func (PySem.W.fnOf "holds_within" "holds_within" (defArgs st_holds_within) (defBody st_holds_within) (defScope st_holds_within) .none kV25 dc25 pm25 an25 cd25 ct25), sl25⟩) (c25 : PySem.W.codeIn K cd25 "holds_within" = true) (k25 : PySem.W.keepIn K (.ref f25) = true)
    (a26 : PySem.W.nsIn K mainGlobals "_law_asked" = some (some (.ref f26))) (l26 : K.lookup f26 = some ⟨oc26, od26, .func (PySem.W.fnOf "_law_asked" "_law_asked" (defArgs st_law_asked) (defBody st_law_asked) (defScope st_law_asked) .none kV26 dc26 pm26 an26 cd26 ct26), sl26⟩) (c26 : PySem.W.codeIn K cd26 "_law_asked" = true) (k26 : PySem.W.keepIn K (.ref f26) = true)
    (a27 : PySem.W.nsIn K mainGlobals "law" = some (some (.ref f27))) (l27 : K.lookup f27 = some ⟨oc27, od27, .func (PySem.W.fnOf "law" "law" (defArgs st_law) (defBody st_law) (defScope st_law) .none kV27 dc27 pm27 an27 cd27 ct27), sl27⟩) (c27 : PySem.W.codeIn K cd27 "law" = true) (k27 : PySem.W.keepIn K (.ref f27) = true)
    (z0 : PySem.W.nsIn K mainGlobals "bool" = some none)    (z1 : PySem.W.nsIn K mainGlobals "dict" = some none)    (z2 : PySem.W.nsIn K mainGlobals "enumerate" = some none)    (z3 : PySem.W.nsIn K mainGlobals "int" = some none)    (z4 : PySem.W.nsIn K mainGlobals "isinstance" = some none)    (z5 : PySem.W.nsIn K mainGlobals "len" = some none)    (z6 : PySem.W.nsIn K mainGlobals "list" = some none)    (z7 : PySem.W.nsIn K mainGlobals "range" = some none)    (z8 : PySem.W.nsIn K mainGlobals "tuple" = some none) :
    ∃ fd : FuncData, (∀ (s : Shared) (v : Value), BindsTo s fd ⟨[v], []⟩ [("_law_script", v)]) ∧ ∀ base : Heap, K.In base → base.Ns mainGlobals mg → FnG l.prog w K mg base 6 fa fd ["_law_script"] (spOf ⟨w, mg⟩ K 1 s_law) := by
  have e := hfa.symm.trans (PySem.W.mg_of X G a27)
  cases e
  have F1 := fun_mk (st := st_is_whole) l1 c1 k1
  have b1 := F1.binds (ps := ["thing"]) fun _ _ _ _ _ _ us hl => match us, hl with | [_], _ => rfl
  have F2 := fun_mk (st := st_led) l2 c2 k2
  have b2 := F2.binds (ps := ["machine", "stand", "number"]) fun _ _ _ _ _ _ us hl => match us, hl with | [_, _, _], _ => rfl
  have F3 := fun_mk (st := st_is_end) l3 c3 k3
  have b3 := F3.binds (ps := ["machine", "stand"]) fun _ _ _ _ _ _ us hl => match us, hl with | [_, _], _ => rfl
  have F4 := fun_mk (st := st_law_pen) l4 c4 k4
  have b4 := F4.binds (ps := ["_law_script", "_law_k"]) fun _ _ _ _ _ _ us hl => match us, hl with | [_, _], _ => rfl
  have F5 := fun_mk (st := st_law_draw) l5 c5 k5
  have b5 := F5.binds (ps := ["_law_pen_here", "_law_many"]) fun _ _ _ _ _ _ us hl => match us, hl with | [_, _], _ => rfl
  have F6 := fun_mk (st := st_law_goal) l6 c6 k6
  have b6 := F6.binds (ps := ["_law_none", "_law_stand"]) fun _ _ _ _ _ _ us hl => match us, hl with | [_, _], _ => rfl
  have F7 := fun_mk (st := st_law_led) l7 c7 k7
  have b7 := F7.binds (ps := ["_law_machine_here", "_law_stand", "_law_number"]) fun _ _ _ _ _ _ us hl => match us, hl with | [_, _, _], _ => rfl
  have F8 := fun_mk (st := st_law_is_end) l8 c8 k8
  have b8 := F8.binds (ps := ["_law_machine_here", "_law_stand"]) fun _ _ _ _ _ _ us hl => match us, hl with | [_, _], _ => rfl
  have F9 := fun_mk (st := st_law_copied) l9 c9 k9
  have b9 := F9.binds (ps := ["_law_machine_here"]) fun _ _ _ _ _ _ us hl => match us, hl with | [_], _ => rfl
  have F10 := fun_mk (st := st_law_twin) l10 c10 k10
  have b10 := F10.binds (ps := ["_law_goal_here", "_law_which"]) fun _ _ _ _ _ _ us hl => match us, hl with | [_, _], _ => rfl
  have F11 := fun_mk (st := st_law_is_place) l11 c11 k11
  have b11 := F11.binds (ps := ["_law_machine_here", "_law_thing"]) fun _ _ _ _ _ _ us hl => match us, hl with | [_, _], _ => rfl
  have F12 := fun_mk (st := st_law_odd) l12 c12 k12
  have b12 := F12.binds (ps := ["_law_pair", "_law_way", "_law_size"]) fun _ _ _ _ _ _ us hl => match us, hl with | [_, _, _], _ => rfl
  have F13 := fun_mk (st := st_law_turned) l13 c13 k13
  have b13 := F13.binds (ps := ["_law_pair"]) fun _ _ _ _ _ _ us hl => match us, hl with | [_], _ => rfl
  have F14 := fun_mk (st := st_is_parted) l14 c14 k14
  have b14 := F14.binds (ps := ["one", "other", "pair", "whole"]) fun _ _ _ _ _ _ us hl => match us, hl with | [_, _, _, _], _ => rfl
  have F15 := fun_mk (st := st_is_place) l15 c15 k15
  have b15 := F15.binds (ps := ["machine", "thing"]) fun _ _ _ _ _ _ us hl => match us, hl with | [_, _], _ => rfl
  have F16 := fun_mk (st := st_law_machine) l16 c16 k16
  have b16 := F16.binds (ps := ["_law_pen_here", "_law_many", "_law_most"]) fun _ _ _ _ _ _ us hl => match us, hl with | [_, _, _], _ => rfl
  have F17 := fun_mk (st := st_law_doubled) l17 c17 k17
  have b17 := F17.binds (ps := ["_law_pen_here", "_law_machine_here", "_law_bent_here"]) fun _ _ _ _ _ _ us hl => match us, hl with | [_, _, _], _ => rfl
  have F18 := fun_mk (st := st_law_are_pairs) l18 c18 k18
  have b18 := F18.binds (ps := ["_law_one", "_law_other", "_law_pairs"]) fun _ _ _ _ _ _ us hl => match us, hl with | [_, _, _], _ => rfl
  have F19 := fun_mk (st := st_law_mixed) l19 c19 k19
  have b19 := F19.binds (ps := ["_law_pen_here", "_law_some"]) fun _ _ _ _ _ _ us hl => match us, hl with | [_, _], _ => rfl
  have F20 := fun_mk (st := st_law_bent) l20 c20 k20
  have b20 := F20.binds (ps := ["_law_pen_here", "_law_one", "_law_other", "_law_pairs"]) fun _ _ _ _ _ _ us hl => match us, hl with | [_, _, _, _], _ => rfl
  have F21 := fun_mk (st := st_are_pairs) l21 c21 k21
  have b21 := F21.binds (ps := ["one", "other", "thing"]) fun _ _ _ _ _ _ us hl => match us, hl with | [_, _, _], _ => rfl
  have F22 := fun_mk (st := st_is_shut) l22 c22 k22
  have b22 := F22.binds (ps := ["one", "other", "pairs", "whole"]) fun _ _ _ _ _ _ us hl => match us, hl with | [_, _, _, _], _ => rfl
  have F23 := fun_mk (st := st_law_hold) l23 c23 k23
  have b23 := F23.binds (ps := ["_law_one", "_law_other", "_law_pairs", "_law_whole"]) fun _ _ _ _ _ _ us hl => match us, hl with | [_, _, _, _], _ => rfl
  have F24 := fun_mk (st := st_holds_alike) l24 c24 k24
  have b24 := F24.binds (ps := ["one", "other", "pairs"]) fun _ _ _ _ _ _ us hl => match us, hl with | [_, _, _], _ => rfl
  have F25 := fun_mk (st := st_holds_within) l25 c25 k25
  have b25 := F25.binds (ps := ["one", "other", "pairs"]) fun _ _ _ _ _ _ us hl => match us, hl with | [_, _, _], _ => rfl
  have F26 := fun_mk (st := st_law_asked) l26 c26 k26
  have b26 := F26.binds (ps := ["_law_one", "_law_other", "_law_pairs"]) fun _ _ _ _ _ _ us hl => match us, hl with | [_, _, _], _ => rfl
  have F27 := fun_mk (st := st_law) l27 c27 k27
  have b27 := F27.binds (ps := ["_law_script"]) fun _ _ _ _ _ _ us hl => match us, hl with | [_], _ => rfl
  have m_bool := PySem.W.mg_none_of X G z0
  have m_dict := PySem.W.mg_none_of X G z1
  have m_enumerate := PySem.W.mg_none_of X G z2
  have m_int := PySem.W.mg_none_of X G z3
  have m_isinstance := PySem.W.mg_none_of X G z4
  have m_len := PySem.W.mg_none_of X G z5
  have m_list := PySem.W.mg_none_of X G z6
  have m_range := PySem.W.mg_none_of X G z7
  have m_tuple := PySem.W.mg_none_of X G z8
  refine ⟨PySem.W.fnOf "law" "law" (defArgs st_law) (defBody st_law) (defScope st_law) .none kV27 dc27 pm27 an27 cd27 ct27, fun s v => .of_eq rfl, fun base _ _ => ?_⟩
  have c_is_whole : Cal l.prog w K mg base 1 "is_whole" 1 s_is_whole := ok_is_whole F1 (PySem.W.mg_of X G a1) b1 m_bool m_int m_isinstance
  have c_led : Cal l.prog w K mg base 1 "led" 3 s_led := ok_led F2 (PySem.W.mg_of X G a2) b2 
  have c_is_end : Cal l.prog w K mg base 1 "is_end" 2 s_is_end := ok_is_end F3 (PySem.W.mg_of X G a3) b3 
  have c_law_pen : Cal l.prog w K mg base 1 "_law_pen" 2 s_law_pen := ok_law_pen F4 (PySem.W.mg_of X G a4) b4 m_len
  have c_law_draw : Cal l.prog w K mg base 1 "_law_draw" 2 s_law_draw := ok_law_draw F5 (PySem.W.mg_of X G a5) b5 
  have c_law_goal : Cal l.prog w K mg base 1 "_law_goal" 2 s_law_goal := ok_law_goal F6 (PySem.W.mg_of X G a6) b6 
  have c_law_led : Cal l.prog w K mg base 1 "_law_led" 3 s_law_led := ok_law_led F7 (PySem.W.mg_of X G a7) b7 
  have c_law_is_end : Cal l.prog w K mg base 1 "_law_is_end" 2 s_law_is_end := ok_law_is_end F8 (PySem.W.mg_of X G a8) b8 
  have c_law_copied : Cal l.prog w K mg base 1 "_law_copied" 1 s_law_copied := ok_law_copied F9 (PySem.W.mg_of X G a9) b9 m_list
  have c_law_twin : Cal l.prog w K mg base 1 "_law_twin" 2 s_law_twin := ok_law_twin F10 (PySem.W.mg_of X G a10) b10 
  have c_law_is_place : Cal l.prog w K mg base 1 "_law_is_place" 2 s_law_is_place := ok_law_is_place F11 (PySem.W.mg_of X G a11) b11 m_bool m_int m_isinstance m_len
  have c_law_odd : Cal l.prog w K mg base 1 "_law_odd" 3 s_law_odd := ok_law_odd F12 (PySem.W.mg_of X G a12) b12 
  have c_law_turned : Cal l.prog w K mg base 1 "_law_turned" 1 s_law_turned := ok_law_turned F13 (PySem.W.mg_of X G a13) b13 m_isinstance m_tuple
  have c_is_parted : Cal l.prog w K mg base 2 "is_parted" 4 s_is_parted := ok_is_parted F14 (PySem.W.mg_of X G a14) b14 c_is_end
  have c_is_place : Cal l.prog w K mg base 2 "is_place" 2 s_is_place := ok_is_place F15 (PySem.W.mg_of X G a15) b15 m_len c_is_whole
  have c_law_machine : Cal l.prog w K mg base 2 "_law_machine" 3 s_law_machine := ok_law_machine F16 (PySem.W.mg_of X G a16) b16 m_range c_law_draw c_law_goal
  have c_law_doubled : Cal l.prog w K mg base 2 "_law_doubled" 3 s_law_doubled := ok_law_doubled F17 (PySem.W.mg_of X G a17) b17 m_enumerate m_len m_range c_law_draw c_law_goal c_law_twin
  have c_law_are_pairs : Cal l.prog w K mg base 2 "_law_are_pairs" 3 s_law_are_pairs := ok_law_are_pairs F18 (PySem.W.mg_of X G a18) b18 m_isinstance m_len m_list m_tuple c_law_is_place
  have c_law_mixed : Cal l.prog w K mg base 2 "_law_mixed" 2 s_law_mixed := ok_law_mixed F19 (PySem.W.mg_of X G a19) b19 m_len c_law_draw
  have c_law_bent : Cal l.prog w K mg base 2 "_law_bent" 4 s_law_bent := ok_law_bent F20 (PySem.W.mg_of X G a20) b20 m_len c_law_draw c_law_goal c_law_odd
  have c_are_pairs : Cal l.prog w K mg base 3 "are_pairs" 3 s_are_pairs := ok_are_pairs F21 (PySem.W.mg_of X G a21) b21 m_isinstance m_len m_list m_tuple c_is_place
  have c_is_shut : Cal l.prog w K mg base 3 "is_shut" 4 s_is_shut := ok_is_shut F22 (PySem.W.mg_of X G a22) b22 m_dict m_len m_range c_led c_is_parted
  have c_law_hold : Cal l.prog w K mg base 3 "_law_hold" 4 s_law_hold := ok_law_hold F23 (PySem.W.mg_of X G a23) b23 m_len m_range c_law_led c_law_is_end c_law_are_pairs
  have c_holds_alike : Cal l.prog w K mg base 4 "holds_alike" 3 s_holds_alike := ok_holds_alike F24 (PySem.W.mg_of X G a24) b24 c_are_pairs c_is_shut
  have c_holds_within : Cal l.prog w K mg base 4 "holds_within" 3 s_holds_within := ok_holds_within F25 (PySem.W.mg_of X G a25) b25 c_are_pairs c_is_shut
  have c_law_asked : Cal l.prog w K mg base 5 "_law_asked" 3 s_law_asked := ok_law_asked F26 (PySem.W.mg_of X G a26) b26 m_bool m_isinstance m_list c_law_copied c_law_hold c_holds_alike c_holds_within
  exact okF_law F27 m_len m_range m_tuple c_law_pen c_law_draw c_law_turned c_law_machine c_law_doubled c_law_mixed c_law_bent c_holds_alike c_holds_within c_law_asked
end A_k36
open PySem PySem.W PyProof.Rows
set_option maxHeartbeats 0 in
theorem PySem.Challenge.cw_wordrules_k36_pairs_looked_at_holds : PySem.Challenge.rw_wordrules_k36_pairs_looked_at.Holds := by
  w_on; o_law; k_head; (case hw => w_witness2)
  k_fill
  refine AL.walk_G (l := PySem.Challenge.rw_wordrules_k36_pairs_looked_at) (n := 63) (k := 6) (x := "_law_script") (sp := fun w mg => AL.spOf ⟨w, mg⟩ _ 1 A_k36.s_law) rfl (by decide) rfl ⟨rfl, by decide, by decide⟩ (fun w h Y => PySem.W.kIn_of Y) ?F (fun _ _ H a ns hl _ hS => AL.law_sp A_k36.law_true _ _ H a ns hl hS)
  case F =>
    intro w mg fa h KX G hmg
    refine' A_k36.all_mk KX G hmg ?a1 ?l1 ?c1 ?k1 ?a2 ?l2 ?c2 ?k2 ?a3 ?l3 ?c3 ?k3 ?a4 ?l4 ?c4 ?k4 ?a5 ?l5 ?c5 ?k5 ?a6 ?l6 ?c6 ?k6 ?a7 ?l7 ?c7 ?k7 ?a8 ?l8 ?c8 ?k8 ?a9 ?l9 ?c9 ?k9 ?a10 ?l10 ?c10 ?k10 ?a11 ?l11 ?c11 ?k11 ?a12 ?l12 ?c12 ?k12 ?a13 ?l13 ?c13 ?k13 ?a14 ?l14 ?c14 ?k14 ?a15 ?l15 ?c15 ?k15 ?a16 ?l16 ?c16 ?k16 ?a17 ?l17 ?c17 ?k17 ?a18 ?l18 ?c18 ?k18 ?a19 ?l19 ?c19 ?k19 ?a20 ?l20 ?c20 ?k20 ?a21 ?l21 ?c21 ?k21 ?a22 ?l22 ?c22 ?k22 ?a23 ?l23 ?c23 ?k23 ?a24 ?l24 ?c24 ?k24 ?a25 ?l25 ?c25 ?k25 ?a26 ?l26 ?c26 ?k26 ?a27 ?l27 ?c27 ?k27 ?z0 ?z1 ?z2 ?z3 ?z4 ?z5 ?z6 ?z7 ?z8
    (case a1 => k_is); (case l1 => k_is); (case c1 => k_is); (case k1 => k_is); (case a2 => k_is); (case l2 => k_is); (case c2 => k_is); (case k2 => k_is)
    (case a3 => k_is); (case l3 => k_is); (case c3 => k_is); (case k3 => k_is); (case a4 => k_is); (case l4 => k_is); (case c4 => k_is); (case k4 => k_is)
    (case a5 => k_is); (case l5 => k_is); (case c5 => k_is); (case k5 => k_is); (case a6 => k_is); (case l6 => k_is); (case c6 => k_is); (case k6 => k_is)
    (case a7 => k_is); (case l7 => k_is); (case c7 => k_is); (case k7 => k_is); (case a8 => k_is); (case l8 => k_is); (case c8 => k_is); (case k8 => k_is)
    (case a9 => k_is); (case l9 => k_is); (case c9 => k_is); (case k9 => k_is); (case a10 => k_is); (case l10 => k_is); (case c10 => k_is); (case k10 => k_is)
    (case a11 => k_is); (case l11 => k_is); (case c11 => k_is); (case k11 => k_is); (case a12 => k_is); (case l12 => k_is); (case c12 => k_is); (case k12 => k_is)
    (case a13 => k_is); (case l13 => k_is); (case c13 => k_is); (case k13 => k_is); (case a14 => k_is); (case l14 => k_is); (case c14 => k_is); (case k14 => k_is)
    (case a15 => k_is); (case l15 => k_is); (case c15 => k_is); (case k15 => k_is); (case a16 => k_is); (case l16 => k_is); (case c16 => k_is); (case k16 => k_is)
    (case a17 => k_is); (case l17 => k_is); (case c17 => k_is); (case k17 => k_is); (case a18 => k_is); (case l18 => k_is); (case c18 => k_is); (case k18 => k_is)
    (case a19 => k_is); (case l19 => k_is); (case c19 => k_is); (case k19 => k_is); (case a20 => k_is); (case l20 => k_is); (case c20 => k_is); (case k20 => k_is)
    (case a21 => k_is); (case l21 => k_is); (case c21 => k_is); (case k21 => k_is); (case a22 => k_is); (case l22 => k_is); (case c22 => k_is); (case k22 => k_is)
    (case a23 => k_is); (case l23 => k_is); (case c23 => k_is); (case k23 => k_is); (case a24 => k_is); (case l24 => k_is); (case c24 => k_is); (case k24 => k_is)
    (case a25 => k_is); (case l25 => k_is); (case c25 => k_is); (case k25 => k_is); (case a26 => k_is); (case l26 => k_is); (case c26 => k_is); (case k26 => k_is)
    (case a27 => k_is); (case l27 => k_is); (case c27 => k_is); (case k27 => k_is); (case z0 => k_is); (case z1 => k_is); (case z2 => k_is); (case z3 => k_is)
    (case z4 => k_is); (case z5 => k_is); (case z6 => k_is); (case z7 => k_is); (case z8 => k_is)
