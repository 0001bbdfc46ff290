import PyProof.Rows.All
import Wide.All
import OpenK.AllK
import Wide.FinOn
import HandS.ForMost
import HandS.IsInst
import HandS.Flow
import HandS.Style
import HandS.TupAny
import HandS.Codes
import HandS.Wide
import HandS.Deep
import HandS.Zip
import HandS.Exc
import HandS.ExcOwn
import HandS.TryMany
import HandS.WordsExc
import KE.KDictKeyed
import HandS.TupMul
import HandS.Dict
import HandS.Words
import HandS.Text
import HandS.More
import PyProof.ListStr
import KE.DatumOrd
import HandS.List
import HandS.Replace
import PyProof.Rows.StrRev
import PyProof.Rows.StrTemp
import PyProof.SliceStr2
import HandS.Ends
import HandS.RaiseMore
import PyProof.ReprRoads
import PyProof.ReprLen
import PyProof.StrLawsRepr
import PyProof.CallFns
import PyProof.StrOps2
import KE.GoesEnum
import KE.GoesNew
import HandS.Iter
import PyProof.SumAny
import PyProof.Rows.SumGenD
import PyProof.TwoTypesSub
import HandS.Strs
import PyProof.StrWalks
import HandS.Proxy
import PyProof.NeKinds
import KE.KDictDisplayH
import PyProof.TupleOfStr
import PyProof.Rows.SortShellAny
import HandS.Conv
import HandS.DictComp
import HandS.DeepEq
import PyProof.ListMulRight
import PyProof.AutoIntG3
import KE.DataFind
import PyProof.Rows.TupTab
import HandS.ExcIs
import PyProof.Rows.CountFlat
import HandS.TupLen
import HandS.SetKeys
import PyProof.CollectStr
import HandS.ExcInit
import KE.KDictWalk
import PyProof.SumWalk
import PyProof.ListOps
import PySem.Challenge.RW_wordrules_k33_what_is_a_shortest
set_option Elab.async false
set_option linter.all false
set_option maxRecDepth 100000
set_option maxHeartbeats 4000000
namespace AL
open PySem PySem.Spec L2
inductive D where
  | non | bl (b : Bool) | int (i : Int) | str (x : Str) | lst (xs : List D) | tup (xs : List D) | dk (kvs : List (Key × D)) | scr (ns : List Int) | ce (a : Addr)
  deriving Inhabited
inductive Cell where
  | lst (xs : List D) | dk (kvs : List (Key × D)) | dn (kvs : List (NestedKey × D)) | exc (nm : Str) | ob (nm : Str) (fs : List (Str × D)) | dw (lk : Option (Obj × List (NestedKey × Addr × V))) (kvs : List (D × D))
abbrev AH := Addr → Option Cell
def put (C : AH) (a : Addr) (c : Cell) : AH := fun b => if b = a then some c else C b
def del (C : AH) (a : Addr) : AH := fun b => if b = a then none else C b
@[simp] theorem put_same {C : AH} {a : Addr} {c : Cell} : put C a c a = some c := by unfold put; rw [if_pos rfl]
theorem put_ne {C : AH} {a b : Addr} {c : Cell} (h : b ≠ a) : put C a c b = C b := by unfold put; rw [if_neg h]
@[simp] theorem put_put {C : AH} {a : Addr} {c d : Cell} : put (put C a c) a d = put C a d := by
  funext b; unfold put; split <;> rfl
def Ex (H H' : Hp) : Prop := ∀ a o, H a = some o → H' a = some o
theorem Ex.refl (H : Hp) : Ex H H := fun _ _ h => h
theorem Ex.trans {H H1 H2 : Hp} (a : Ex H H1) (b : Ex H1 H2) : Ex H H2 := fun x o h => b x o (a x o h)
theorem Ex.new {H : Hp} {p : Addr} {o : HO} (h : H p = none) : Ex H (upd H p o) := fun a u e => by
  rw [upd_ne (ne_of_none e h)]
  exact e
theorem Ex.l {K : PySem.W.Frag} {H H' : Hp} {a : Addr} {xs : List V} (e : Ex H H') (h : SqL K H a xs) : SqL K H' a xs := by
  rcases h with (h | ⟨o, h⟩) | h
  · exact Or.inl (Or.inl (e a _ h))
  · exact Or.inl (Or.inr ⟨o, e a _ h⟩)
  · exact Or.inr h
theorem Ex.back {H H' : Hp} {p : Addr} (e : Ex H H') (h : H' p = none) : H p = none := by
  cases h1 : H p with
  | none => rfl
  | some o => rw [e p o h1] at h; cases h
def wkP : List D → Bool
  | [.int _, _] => true
  | _ => false
/-- at a stands a tuple -/
def TupS (F : Hp) (a : Addr) (xs : List V) (ds : List D) : Prop := Rd F a (.tup xs) ∧ (wkP ds = false → ∃ o : Obj, o.dict = none ∧ F a = some (.frz o (.tup xs)))
theorem rdUp {F F' : Hp} {a : Addr} {u : HO} (h : Rd F a u) (e : Ex F F') : Rd F' a u := by
  rcases h with h | ⟨o, h⟩
  · exact .inl (e a _ h)
  · exact .inr ⟨o, e a _ h⟩
theorem TupS.mono {F F' : Hp} {a : Addr} {xs : List V} {ds : List D} (h : TupS F a xs ds) (e : Ex F F') : TupS F' a xs ds :=
  ⟨rdUp h.1 e, fun q => let ⟨o, h1, h2⟩ := h.2 q; ⟨o, h1, e a _ h2⟩⟩
theorem TupS.sq {K : PySem.W.Frag} {F H : Hp} {a : Addr} {xs : List V} {ds : List D} (h : TupS F a xs ds) (e : Ex F H) : SqT K H a xs := .inl (rdUp h.1 e)
theorem SqT.of {K : PySem.W.Frag} {H : Hp} {a : Addr} {xs : List V} (h : Rd H a (.tup xs)) : SqT K H a xs := .inl h
theorem TupS.frz {F : Hp} {a : Addr} {xs : List V} {ds : List D} {o : Obj} (h1 : o.dict = none) (h2 : F a = some (.frz o (.tup xs))) : TupS F a xs ds := ⟨.inr ⟨o, h2⟩, fun _ => ⟨o, h1, h2⟩⟩
mutual
inductive Rep (K : PySem.W.Frag) (F : Hp) : V → D → Prop
  | non : Rep K F .non .non
  | bl (b : Bool) : Rep K F (.bl b) (.bl b)
  | int (i : Int) : Rep K F (.int i) (.int i)
  | str (x : Str) : Rep K F (.str x) (.str x)
  | lst {a : Addr} {xs : List V} {ds : List D} : F a = some (.lst xs) → RepL K F xs ds → Rep K F (.ref a) (.lst ds)
  | tup {a : Addr} {xs : List V} {ds : List D} : TupS F a xs ds → RepL K F xs ds → Rep K F (.ref a) (.tup ds)
  | dk {a : Addr} {kvs : List (Key × V)} {es : List (Key × D)} : F a = some (.dK kvs) → RepK K F kvs es → Rep K F (.ref a) (.dk es)
  | scr {a : Addr} {ns : List Int} : SqL K F a (ns.map V.int) → Rep K F (.ref a) (.scr ns)
  | ce (a : Addr) : Rep K F (.ref a) (.ce a)
inductive RepL (K : PySem.W.Frag) (F : Hp) : List V → List D → Prop
  | nil : RepL K F [] []
  | cons {v : V} {vs : List V} {d : D} {ds : List D} : Rep K F v d → RepL K F vs ds → RepL K F (v :: vs) (d :: ds)
inductive RepK (K : PySem.W.Frag) (F : Hp) : List (Key × V) → List (Key × D) → Prop
  | nil : RepK K F [] []
  | cons {k : Key} {v : V} {vs : List (Key × V)} {d : D} {ds : List (Key × D)} : Rep K F v d → RepK K F vs ds → RepK K F ((k, v) :: vs) ((k, d) :: ds)
end
mutual
theorem Rep.mono {K : PySem.W.Frag} {F F' : Hp} (e : Ex F F') : ∀ {v : V} {d : D}, Rep K F v d → Rep K F' v d
  | _, _, .non => .non
  | _, _, .bl b => .bl b
  | _, _, .int i => .int i
  | _, _, .str x => .str x
  | _, _, .lst h r => .lst (e _ _ h) (RepL.mono e r)
  | _, _, .tup h r => .tup (h.mono e) (RepL.mono e r)
  | _, _, .dk h r => .dk (e _ _ h) (RepK.mono e r)
  | _, _, .scr h => .scr (e.l h)
  | _, _, .ce a => .ce a
theorem RepL.mono {K : PySem.W.Frag} {F F' : Hp} (e : Ex F F') : ∀ {vs : List V} {ds : List D}, RepL K F vs ds → RepL K F' vs ds
  | _, _, .nil => .nil
  | _, _, .cons r t => .cons (Rep.mono e r) (RepL.mono e t)
theorem RepK.mono {K : PySem.W.Frag} {F F' : Hp} (e : Ex F F') : ∀ {vs : List (Key × V)} {ds : List (Key × D)}, RepK K F vs ds → RepK K F' vs ds
  | _, _, .nil => .nil
  | _, _, .cons r t => .cons (Rep.mono e r) (RepK.mono e t)
end
section
variable {K : PySem.W.Frag} {F F' : Hp}
theorem RepL.length : ∀ {vs : List V} {ds : List D}, RepL K F vs ds → vs.length = ds.length
  | _, _, .nil => rfl
  | _, _, .cons _ t => by rw [List.length_cons, List.length_cons, RepL.length t]
theorem RepL.get : ∀ {vs : List V} {ds : List D} {i : Nat} {v : V}, RepL K F vs ds → vs[i]? = some v → ∃ d, ds[i]? = some d ∧ Rep K F v d
  | _, _, _, _, .nil, e => by simp at e
  | _, _, 0, _, .cons r _, e => by simp at e; subst e; exact ⟨_, rfl, r⟩
  | _, _, i + 1, v, .cons _ t, e => by
    obtain ⟨u, h1, h2⟩ := RepL.get (i := i) (v := v) t (by simpa using e)
    exact ⟨u, by simpa using h1, h2⟩
theorem RepL.getD : ∀ {vs : List V} {ds : List D} {i : Nat} {d : D}, RepL K F vs ds → ds[i]? = some d → ∃ v, vs[i]? = some v ∧ Rep K F v d
  | _, _, _, _, .nil, e => by simp at e
  | _, _, 0, _, .cons r _, e => by simp at e; subst e; exact ⟨_, rfl, r⟩
  | _, _, i + 1, v, .cons _ t, e => by
    obtain ⟨u, h1, h2⟩ := RepL.getD (i := i) (d := v) t (by simpa using e)
    exact ⟨u, by simpa using h1, h2⟩
theorem RepL.set {x : V} {u : D} (r : Rep K F x u) : ∀ {xs : List V} {us : List D} (i : Nat), RepL K F xs us → RepL K F (xs.set i x) (us.set i u)
  | _, _, _, .nil => .nil
  | _, _, 0, .cons _ t => .cons r t
  | _, _, i + 1, .cons q t => .cons q (RepL.set r i t)
theorem RepL.append : ∀ {xs ys : List V} {us ws : List D}, RepL K F xs us → RepL K F ys ws → RepL K F (xs ++ ys) (us ++ ws)
  | _, _, _, _, .nil, s => s
  | _, _, _, _, .cons r t, s => .cons r (RepL.append t s)
theorem RepL.take : ∀ {xs : List V} {us : List D} (n : Nat), RepL K F xs us → RepL K F (xs.take n) (us.take n)
  | _, _, 0, _ => .nil
  | _, _, _ + 1, .nil => .nil
  | _, _, n + 1, .cons r t => .cons r (RepL.take n t)
theorem RepL.drop : ∀ {xs : List V} {us : List D} (n : Nat), RepL K F xs us → RepL K F (xs.drop n) (us.drop n)
  | _, _, 0, r => r
  | _, _, _ + 1, .nil => .nil
  | _, _, n + 1, .cons _ t => RepL.drop n t
theorem RepL.reverse : ∀ {xs : List V} {us : List D}, RepL K F xs us → RepL K F xs.reverse us.reverse
  | _, _, .nil => .nil
  | _, _, .cons r t => by
    rw [List.reverse_cons, List.reverse_cons]
    exact RepL.append (RepL.reverse t) (.cons r .nil)
theorem RepL.dropLast {xs : List V} {us : List D} (h : RepL K F xs us) : RepL K F xs.dropLast us.dropLast := by
  rw [List.dropLast_eq_take, List.dropLast_eq_take, h.length]
  exact h.take _
theorem RepL.erase : ∀ {xs : List V} {us : List D} (i : Nat), RepL K F xs us → RepL K F (xs.eraseIdx i) (us.eraseIdx i)
  | _, _, _, .nil => .nil
  | _, _, 0, .cons _ t => t
  | _, _, i + 1, .cons q t => .cons q (RepL.erase i t)
theorem RepL.ints : ∀ ns : List Int, RepL K F (ns.map V.int) (ns.map D.int)
  | [] => .nil
  | n :: ns => .cons (.int n) (RepL.ints ns)
theorem RepL.ofInts : ∀ {xs : List V} {ns : List Int}, RepL K F xs (ns.map D.int) → xs = ns.map V.int
  | _, [], .nil => rfl
  | _, n :: ns, .cons (.int _) t => by rw [List.map_cons, RepL.ofInts t]
theorem RepL.ofBls : ∀ {xs : List V} {ns : List Bool}, RepL K F xs (ns.map D.bl) → xs = ns.map V.bl
  | _, [], .nil => rfl
  | _, n :: ns, .cons (.bl _) t => by rw [List.map_cons, RepL.ofBls t]
end
/-- entries whose keys are tuples -/
inductive RepT (K : PySem.W.Frag) (F : Hp) : List (List Key × V) → List (List Key × D) → Prop
  | nil : RepT K F [] []
  | cons {k : List Key} {v : V} {vs : List (List Key × V)} {d : D} {ds : List (List Key × D)} : Rep K F v d → RepT K F vs ds → RepT K F ((k, v) :: vs) ((k, d) :: ds)
theorem RepT.mono {K : PySem.W.Frag} {F F' : Hp} (e : Ex F F') : ∀ {vs : List (List Key × V)} {ds : List (List Key × D)}, RepT K F vs ds → RepT K F' vs ds
  | _, _, .nil => .nil
  | _, _, .cons r t => .cons (r.mono e) (t.mono e)
mutual
/-- a value that is a key -/
inductive VKey (F : Hp) : V → NestedKey → Prop
  | non : VKey F .non .none
  | bl (b : Bool) : VKey F (.bl b) (.num (if b = true then 1 else 0))
  | int (i : Int) : VKey F (.int i) (.num i)
  | str (x : Str) : VKey F (.str x) (.text x)
  | tup {a : Addr} {vs : List V} {ks : List NestedKey} : Rd F a (.tup vs) → VKeys F vs ks → VKey F (.ref a) (.tup ks)
inductive VKeys (F : Hp) : List V → List NestedKey → Prop
  | nil : VKeys F [] []
  | cons {v : V} {vs : List V} {k : NestedKey} {ks : List NestedKey} : VKey F v k → VKeys F vs ks → VKeys F (v :: vs) (k :: ks)
end
mutual
theorem VKey.mono {F F' : Hp} (e : Ex F F') : ∀ {v : V} {k : NestedKey}, VKey F v k → VKey F' v k
  | _, _, .non => .non
  | _, _, .bl b => .bl b
  | _, _, .int i => .int i
  | _, _, .str x => .str x
  | _, _, .tup h r => .tup (rdUp h e) (VKeys.mono e r)
theorem VKeys.mono {F F' : Hp} (e : Ex F F') : ∀ {v : List V} {k : List NestedKey}, VKeys F v k → VKeys F' v k
  | _, _, .nil => .nil
  | _, _, .cons r t => .cons (VKey.mono e r) (VKeys.mono e t)
end
inductive RepN (K : PySem.W.Frag) (F : Hp) : List (NestedKey × Addr × V) → List (NestedKey × D) → Prop
  | nil : RepN K F [] []
  | cons {k : NestedKey} {a : Addr} {v : V} {vs : List (NestedKey × Addr × V)} {d : D} {ds : List (NestedKey × D)} : VKey F (.ref a) k → k.depth ≤ 8 → Rep K F v d → RepN K F vs ds → RepN K F ((k, a, v) :: vs) ((k, d) :: ds)
theorem RepN.mono {K : PySem.W.Frag} {F F' : Hp} (e : Ex F F') : ∀ {vs : List (NestedKey × Addr × V)} {ds : List (NestedKey × D)}, RepN K F vs ds → RepN K F' vs ds
  | _, _, .nil => .nil
  | _, _, .cons a b r t => .cons (a.mono e) b (r.mono e) (t.mono e)
mutual
def keyN : D → Option NestedKey
  | .non => some .none
  | .bl b => some (.num (if b = true then 1 else 0))
  | .int i => some (.num i)
  | .str x => some (.text x)
  | .tup ds => (keyNs ds).map .tup
  | _ => none
def keyNs : List D → Option (List NestedKey)
  | [] => some []
  | d :: ds => match keyN d, keyNs ds with | some k, some ks => some (k :: ks) | _, _ => none
end
def isTup : D → Bool
  | .tup _ => true
  | _ => false
/-- a tuple that is a key -/
def keyT (d : D) : Option NestedKey := if isTup d = true then (match keyN d with | some k => if k.depth ≤ 8 then some k else none | none => none) else none
/-- entries whose keys are told, too -/
inductive RepW (K : PySem.W.Frag) (F : Hp) : List (NestedKey × Addr × V) → List (D × D) → Prop
  | nil : RepW K F [] []
  | cons {k : NestedKey} {a : Addr} {v : V} {vs : List (NestedKey × Addr × V)} {kd d : D} {ds : List (D × D)} : Rep K F (.ref a) kd → keyT kd = some k → Rep K F v d → RepW K F vs ds → RepW K F ((k, a, v) :: vs) ((kd, d) :: ds)
theorem RepW.mono {K : PySem.W.Frag} {F F' : Hp} (e : Ex F F') : ∀ {vs : List (NestedKey × Addr × V)} {ds : List (D × D)}, RepW K F vs ds → RepW K F' vs ds
  | _, _, .nil => .nil
  | _, _, .cons a b r t => .cons (a.mono e) b (r.mono e) (t.mono e)
/-- at p stands a dict with these entries -/
def DictN (w : World) (p : Addr) (xs : List (NestedKey × Addr × V)) : Heap → Prop := fun h => xs.length ≤ sizeLine ∧ (p == sysModules) = false ∧
  ∃ ys : List (NestedKey × Addr × Value), Paired (fun (x : NestedKey × Addr × V) (y : NestedKey × Addr × Value) => x.1 = y.1 ∧ x.2.1 = y.2.1 ∧ RelV x.2.2 y.2.2) xs ys ∧
  ∃ (o : Obj) (es : Array DictEntry) (ep : Nat), h.get? p = some o ∧ o.ExactDict ∧ o.data = .dict es ep ∧ es.toList = ys.map (fun x => (⟨x.1.hash w, .ref x.2.1, x.2.2⟩ : DictEntry)) ∧ (ys.map (·.1)).Nodup
/-- fields of an object -/
inductive RepF (K : PySem.W.Frag) (F : Hp) : List (Str × V) → List (Str × D) → Prop
  | nil : RepF K F [] []
  | cons {k : Str} {v : V} {vs : List (Str × V)} {d : D} {ds : List (Str × D)} : Rep K F v d → RepF K F vs ds → RepF K F ((k, v) :: vs) ((k, d) :: ds)
theorem RepF.mono {K : PySem.W.Frag} {F F' : Hp} (e : Ex F F') : ∀ {vs : List (Str × V)} {ds : List (Str × D)}, RepF K F vs ds → RepF K F' vs ds
  | _, _, .nil => .nil
  | _, _, .cons r t => .cons (r.mono e) (t.mono e)
/-- the grounds: the world, the module's names -/
structure Gd where
  w : World
  mg : Str → Option Value
/-- at p stands an exception of a class, without attributes -/
def ExcAt (cls : Value) (p : Addr) : Heap → Prop := fun h => ∃ (oe : Obj) (vs : Array Value), h.get? p = some oe ∧ oe.cls = cls ∧ oe.dict = none ∧ oe.data = .fields vs
/-- what a cell holds -/
inductive CellC (w : Gd) (K : PySem.W.Frag) (F : Hp) (p : Addr) : HO → Cell → Prop
  | lst {xs : List V} {ds : List D} : RepL K F xs ds → CellC w K F p (.lst xs) (.lst ds)
  | dk {kvs : List (Key × V)} {es : List (Key × D)} : RepK K F kvs es → CellC w K F p (.dK kvs) (.dk es)
  | dn {xs : List (NestedKey × Addr × V)} {es : List (NestedKey × D)} : RepN K F xs es → CellC w K F p (.ext (DictN w.w p xs)) (.dn es)
  | dw {xs : List (NestedKey × Addr × V)} {es : List (D × D)} : RepW K F xs es → CellC w K F p (.ext (DictN w.w p xs)) (.dw none es)
  | dwl {o : Obj} {xs : List (NestedKey × Addr × V)} {es : List (D × D)} : RepW K F xs es → CellC w K F p (.frz o (.ext (DictN w.w p xs))) (.dw (some (o, xs)) es)
  | exc {nm : Str} {cls : Value} : w.mg nm = some cls → CellC w K F p (.ext (ExcAt cls p)) (.exc nm)
  | ob {nm : Str} {C dx : Addr} {fs : List (Str × V)} {es : List (Str × D)} : w.mg nm = some (.ref C) → RepF K F fs es → CellC w K F p (.ins C dx fs) (.ob nm es)
theorem CellC.mono {w : Gd} {K : PySem.W.Frag} {F F' : Hp} {p : Addr} (e : Ex F F') {o : HO} {c : Cell} : CellC w K F p o c → CellC w K F' p o c
  | .lst r => .lst (r.mono e)
  | .dk r => .dk (r.mono e)
  | .dn r => .dn (r.mono e)
  | .exc h => .exc h
  | .dw r => .dw (r.mono e)
  | .dwl r => .dwl (r.mono e)
  | .ob h r => .ob h (r.mono e)
/-- what was known, and kept aside, where the def, or the try, was entered -/
structure Bs where
  F0 : Hp
  R0 : Hp
  g : Gd
/-- the empty ground -/
def Bs.nil (w : Gd) : Bs := ⟨fun _ => none, fun _ => none, w⟩
/-- F: what is known for good; C: the cells; R: what is kept aside -/
structure Sat (B : Bs) (K : PySem.W.Frag) (F : Hp) (C : AH) (R H : Hp) : Prop where
  bF : Ex B.F0 F
  bR : Ex B.R0 R
  ex : Ex F H
  cell : ∀ p c, C p = some c → F p = none ∧ ∃ o, H p = some o ∧ CellC B.g K F p o c
  priv : ∀ p o, R p = some o → F p = none ∧ C p = none ∧ H p = some o
section
variable {B : Bs} {K : PySem.W.Frag} {F F' : Hp} {C : AH} {R H : Hp} {p : Addr}
theorem Sat.rebase {B' : Bs} (S : Sat B K F C R H) (hw : B'.g = B.g) (h1 : Ex B'.F0 F) (h2 : Ex B'.R0 R) : Sat B' K F C R H := ⟨h1, h2, S.ex, fun p c e => by rw [hw]; exact S.cell p c e, S.priv⟩
theorem Sat.nil (S : Sat B K F C R H) : Sat (Bs.nil B.g) K F C R H := S.rebase rfl (fun _ _ e => by cases e) (fun _ _ e => by cases e)
/-- back behind a call -/
theorem Sat.back {C0 : AH} {H0 : Hp} {F1 : Hp} {C1 : AH} {H1 : Hp} (S : Sat B K F C0 R H0) (e : Ex F F1) (S1 : Sat (Bs.nil B.g) K F1 C1 R H1) : Sat B K F1 C1 R H1 := S1.rebase rfl (S.bF.trans e) S.bR
theorem Sat.freeB (S : Sat B K F C R H) (h : R p = none) : B.R0 p = none := S.bR.back h
theorem Sat.freeF (S : Sat B K F C R H) (h : H p = none) : F p = none := S.ex.back h
theorem Sat.freeC (S : Sat B K F C R H) (h : H p = none) : C p = none := by
  cases q : C p with
  | none => rfl
  | some c => obtain ⟨_, o, e, _⟩ := S.cell p c q; rw [h] at e; cases e
theorem Sat.freeR (S : Sat B K F C R H) (h : H p = none) : R p = none := by
  cases q : R p with
  | none => rfl
  | some c => have e := (S.priv p c q).2.2; rw [h] at e; cases e
/-- a new object, known for good -/
theorem Sat.newF (S : Sat B K F C R H) (h : H p = none) (o : HO) : Sat B K (upd F p o) C R (upd H p o) := by
  have hF := S.freeF h
  refine ⟨S.bF.trans (Ex.new hF), S.bR, fun a u e => ?_, fun q c e => ?_, fun q u e => ?_⟩
  · by_cases ha : a = p
    · subst ha; rw [upd_same] at e ⊢; exact e
    · rw [upd_ne ha] at e ⊢; exact S.ex _ _ e
  · obtain ⟨h1, u, h2, h3⟩ := S.cell q c e
    have hq : q ≠ p := ne_of_none h2 h
    exact ⟨by rw [upd_ne hq]; exact h1, u, by rw [upd_ne hq]; exact h2, h3.mono (Ex.new hF)⟩
  · obtain ⟨h1, h2, h3⟩ := S.priv q u e
    have hq : q ≠ p := ne_of_none h3 h
    exact ⟨by rw [upd_ne hq]; exact h1, h2, by rw [upd_ne hq]; exact h3⟩
/-- a cell is made, or changed -/
theorem Sat.setC (S : Sat B K F C R H) (hF : F p = none) (hR : R p = none) {o : HO} {c : Cell} (h : CellC B.g K F p o c) : Sat B K F (put C p c) R (upd H p o) := by
  refine ⟨S.bF, S.bR, fun a u e => ?_, fun q d e => ?_, fun q u e => ?_⟩
  · rw [upd_ne (ne_of_none e hF)]; exact S.ex _ _ e
  · by_cases hq : q = p
    · subst hq; rw [put_same] at e; cases e; exact ⟨hF, o, upd_same, h⟩
    · rw [put_ne hq] at e
      obtain ⟨h1, u, h2, h3⟩ := S.cell q d e
      exact ⟨h1, u, by rw [upd_ne hq]; exact h2, h3⟩
  · have hq : q ≠ p := ne_of_none e hR
    obtain ⟨h1, h2, h3⟩ := S.priv q u e
    exact ⟨h1, by rw [put_ne hq]; exact h2, by rw [upd_ne hq]; exact h3⟩
theorem Sat.newC (S : Sat B K F C R H) (h : H p = none) {o : HO} {c : Cell} (hc : CellC B.g K F p o c) : Sat B K F (put C p c) R (upd H p o) := S.setC (S.freeF h) (S.freeR h) hc
theorem Sat.mutC (S : Sat B K F C R H) {c0 : Cell} (h : C p = some c0) {o : HO} {c : Cell} (hc : CellC B.g K F p o c) : Sat B K F (put C p c) R (upd H p o) := by
  refine S.setC (S.cell p c0 h).1 ?_ hc
  cases q : R p with
  | none => rfl
  | some u => have e := (S.priv p u q).2.1; rw [h] at e; cases e
/-- kept aside -/
theorem Sat.setR (S : Sat B K F C R H) (hF : F p = none) (hC : C p = none) (hB : B.R0 p = none) (o : HO) : Sat B K F C (upd R p o) (upd H p o) := by
  refine ⟨S.bF, fun q u e => by rw [upd_ne (ne_of_none e hB)]; exact S.bR q u e, fun a u e => ?_, fun q d e => ?_, fun q u e => ?_⟩
  · rw [upd_ne (ne_of_none e hF)]; exact S.ex _ _ e
  · have hq : q ≠ p := fun z => by rw [z, hC] at e; cases e
    obtain ⟨h1, u, h2, h3⟩ := S.cell q d e
    exact ⟨h1, u, by rw [upd_ne hq]; exact h2, h3⟩
  · by_cases hq : q = p
    · subst hq; rw [upd_same] at e; cases e; exact ⟨hF, hC, upd_same⟩
    · rw [upd_ne hq] at e
      obtain ⟨h1, h2, h3⟩ := S.priv q u e
      exact ⟨h1, h2, by rw [upd_ne hq]; exact h3⟩
/-- what was kept aside is known for good, is a cell -/
theorem Sat.outF (S : Sat B K F C (upd R p o) H) (hR : R p = none) (hB : B.R0 p = none) : Sat B K (upd F p o) C R H := by
  obtain ⟨f, c, h⟩ := S.priv p o upd_same
  refine ⟨S.bF.trans (Ex.new f), fun q u e => by have := S.bR q u e; rwa [upd_ne (ne_of_none e hB)] at this, fun a u e => ?_, fun q d e => ?_, fun q u e => ?_⟩
  · by_cases ha : a = p
    · subst ha; rw [upd_same] at e; cases e; exact h
    · rw [upd_ne ha] at e; exact S.ex _ _ e
  · have hq : q ≠ p := fun z => by rw [z, c] at e; cases e
    obtain ⟨h1, u, h2, h3⟩ := S.cell q d e
    exact ⟨by rw [upd_ne hq]; exact h1, u, h2, h3.mono (Ex.new f)⟩
  · have hq : q ≠ p := ne_of_none e hR
    obtain ⟨h1, h2, h3⟩ := S.priv q u (by rw [upd_ne hq]; exact e)
    exact ⟨by rw [upd_ne hq]; exact h1, h2, h3⟩
theorem Sat.outC {o : HO} {c : Cell} (S : Sat B K F C (upd R p o) H) (hR : R p = none) (hB : B.R0 p = none) (hc : CellC B.g K F p o c) : Sat B K F (put C p c) R H := by
  obtain ⟨f, c0, h⟩ := S.priv p o upd_same
  refine ⟨S.bF, fun q u e => by have := S.bR q u e; rwa [upd_ne (ne_of_none e hB)] at this, S.ex, fun q d e => ?_, fun q u e => ?_⟩
  · by_cases hq : q = p
    · subst hq; rw [put_same] at e; cases e; exact ⟨f, o, h, hc⟩
    · rw [put_ne hq] at e; exact S.cell q d e
  · have hq : q ≠ p := ne_of_none e hR
    obtain ⟨h1, h2, h3⟩ := S.priv q u (by rw [upd_ne hq]; exact e)
    exact ⟨h1, by rw [put_ne hq]; exact h2, h3⟩
/-- a cell is changed no more -/
theorem Sat.freeze {o : HO} {c : Cell} (S : Sat B K F C R H) (h : C p = some c) (hH : H p = some o) : Sat B K (upd F p o) (del C p) R H := by
  obtain ⟨f, _, _⟩ := S.cell p c h
  refine ⟨S.bF.trans (Ex.new f), S.bR, fun a u e => ?_, fun q d e => ?_, fun q u e => ?_⟩
  · by_cases ha : a = p
    · subst ha; rw [upd_same] at e; cases e; exact hH
    · rw [upd_ne ha] at e; exact S.ex _ _ e
  · by_cases hq : q = p
    · subst hq; unfold del at e; rw [if_pos rfl] at e; cases e
    · unfold del at e; rw [if_neg hq] at e
      obtain ⟨h1, u, h2, h3⟩ := S.cell q d e
      exact ⟨by rw [upd_ne hq]; exact h1, u, h2, h3.mono (Ex.new f)⟩
  · obtain ⟨h1, h2, h3⟩ := S.priv q u e
    have hq : q ≠ p := fun z => by rw [z, h] at h2; cases h2
    refine ⟨by rw [upd_ne hq]; exact h1, ?_, h3⟩
    unfold del; rw [if_neg hq]; exact h2
end
abbrev ASt := List (Option D)
structure Slo (K : PySem.W.Frag) (F : Hp) (s : ASt) (σ : St) : Prop where
  len : s.length = σ.length
  at' : ∀ (i : Nat) (d : D), s[i]? = some (some d) → ∃ v, σ[i]? = some (some v) ∧ Rep K F v d
section
variable {K : PySem.W.Frag} {F F' : Hp} {s : ASt} {σ : St}
theorem Slo.mono (r : Slo K F s σ) (e : Ex F F') : Slo K F' s σ := ⟨r.len, fun i d h => let ⟨v, a, b⟩ := r.at' i d h; ⟨v, a, b.mono e⟩⟩
theorem Slo.set (r : Slo K F s σ) {v : V} {d : D} (h : Rep K F v d) (i : Nat) : Slo K F (s.set i (some d)) (σ.set i (some v)) := by
  refine ⟨by rw [List.length_set, List.length_set, r.len], fun j e q => ?_⟩
  by_cases hj : i = j
  · subst hj
    by_cases hi : i < s.length
    · rw [List.getElem?_set_self hi] at q
      cases q
      exact ⟨v, List.getElem?_set_self (by rw [← r.len]; exact hi), h⟩
    · rw [List.getElem?_eq_none (by simpa using hi)] at q; cases q
  · rw [List.getElem?_set_ne hj] at q ⊢
    exact r.at' j e q
theorem Slo.forget (r : Slo K F s σ) (i : Nat) : Slo K F (s.set i none) (σ.set i none) := by
  refine ⟨by rw [List.length_set, List.length_set, r.len], fun j e q => ?_⟩
  by_cases hj : i = j
  · subst hj
    by_cases hi : i < s.length
    · rw [List.getElem?_set_self hi] at q; cases q
    · rw [List.getElem?_eq_none (by simpa using hi)] at q; cases q
  · rw [List.getElem?_set_ne hj] at q ⊢
    exact r.at' j e q
/-- only the abstract slot changes -/
theorem Slo.reset (r : Slo K F s σ) {i : Nat} {d0 d : D} (h0 : s[i]? = some (some d0)) (h : ∀ v, Rep K F v d0 → Rep K F v d) : Slo K F (s.set i (some d)) σ := by
  refine ⟨by rw [List.length_set, r.len], fun j e q => ?_⟩
  by_cases hj : i = j
  · subst hj
    have hi : i < s.length := (List.getElem?_eq_some_iff.mp h0).1
    rw [List.getElem?_set_self hi] at q
    cases q
    obtain ⟨v, h1, h2⟩ := r.at' i d0 h0
    exact ⟨v, h1, h v h2⟩
  · rw [List.getElem?_set_ne hj] at q
    exact r.at' j e q
def wipeA (s : ASt) : List Nat → ASt
  | [] => s
  | v :: vs => (wipeA s vs).set v none
theorem Slo.wipe (r : Slo K F s σ) : ∀ vs : List Nat, Slo K F (wipeA s vs) (L2.wipe σ vs)
  | [] => r
  | v :: vs => (Slo.wipe r vs).forget v
theorem Slo.start {vs : List V} {ds : List D} (h : RepL K F vs ds) (n : Nat) : Slo K F (ds.map some ++ List.replicate (n - ds.length) none) (vs.map some ++ List.replicate (n - vs.length) none) := by
  have e := h.length
  refine ⟨by simp [e], fun i d q => ?_⟩
  by_cases hi : i < ds.length
  · rw [List.getElem?_append_left (by simpa using hi), List.getElem?_map] at q
    rw [List.getElem?_append_left (by simpa [e] using hi), List.getElem?_map]
    cases z : ds[i]? with
    | none => rw [z] at q; cases q
    | some d' =>
      rw [z] at q
      cases q
      obtain ⟨v, h1, h2⟩ := h.getD z
      exact ⟨v, by rw [h1]; rfl, h2⟩
  · rw [List.getElem?_append_right (by simpa using hi), List.getElem?_replicate] at q
    split at q <;> cases q
end
end AL
namespace AL
open PySem PySem.Spec PyProof.Rows L2
def NewT (xs : List V) (Q : VK) (H : Hp) : Prop := ∀ (p : Addr) (ob : Obj), ob.dict = none → H p = none → Q (.ref p) (upd H p (.frz ob (.tup xs)))
section
variable {X : Cx} {pins : List (Addr × Obj)} {σ : L2.St} {H : Hp} {s : Shared}
theorem laidT {xs : List V} {its : List Value} {Q : VK} {h' : Heap} {tk : Nat} (I : Inv X pins σ H { s with heap := h' }) (hz : xs.length ≤ sizeLine) (r : L2.Vals xs its) (q : NewT xs Q H) :
    EP X pins σ Q (.ref h'.objs.size) { s with heap := h'.push { cls := .type "tuple", data := .seq its.toArray } } := by
  refine ⟨.ref h'.objs.size, upd H h'.objs.size (.frz { cls := .type "tuple", data := .seq its.toArray } (.tup xs)), I.laid (t' := s.toks) (fun b u e => Heap.get?_push_of_some _ e) (Nat.le_refl _) ?_, rfl, q _ _ rfl (I.hok.fresh (Nat.le_refl _))⟩
  exact ⟨Heap.get?_push_size _ rfl, hz, its, r, ⟨_, Heap.get?_push_size _ rfl, rfl, _, rfl⟩⟩
end
def tTupN (t : TA) : TE := fun σ H Q => t σ H fun xs H1 => xs.length ≤ sizeLine ∧ NewT xs Q H1
section
variable {X : Cx} {es : List Expr} {t : TA} {pos : Pos}
theorem pe_tupN {x1} (h : PA X es t) : PE X (.Tuple es x1 pos) (tTupN t) := by
  refine ⟨fun pins s σ H Q I hq => ?_⟩
  refine wpAny_Tuple_spliced (thn (h.run pos pins s σ H _ I hq) fun us s1 ⟨xs, H1, I1, r, z, q⟩ => ⟨by rw [← r.length]; exact z, ?_⟩)
  exact laidT (tk := s1.toks) I1 z r q
def rCatTN (K : PySem.W.Frag) : R2 := fun x y H Q => ∃ a b xs ys, x = .ref a ∧ y = .ref b ∧ SqT K H a xs ∧ SqT K H b ys ∧ xs.length + ys.length ≤ sizeLine ∧
  (xs = [] → Q (.ref b) H) ∧ (xs ≠ [] → ys = [] → Q (.ref a) H) ∧ (xs ≠ [] → ys ≠ [] → NewT (xs ++ ys) Q H)
theorem op_catTN : OpR X (binaryOp .Add) (rCatTN X.K) := by
  intro pins s σ H x y v u Q I rx ry h
  obtain ⟨a, b, xs, ys, rfl, rfl, ha, hb, hz, q0, q1, q2⟩ := h
  by_cases hx : xs = []
  · exact op_catA pins s σ H _ _ v u Q I rx ry ⟨a, b, xs, ys, rfl, rfl, ha, hb, hz, q0, q1, fun h => absurd hx h⟩
  by_cases hy : ys = []
  · exact op_catA pins s σ H _ _ v u Q I rx ry ⟨a, b, xs, ys, rfl, rfl, ha, hb, hz, q0, q1, fun _ h => absurd hy h⟩
  cases rx
  cases ry
  obtain ⟨its, r1, p1, _⟩ := I.tuple ha
  obtain ⟨its2, r2, p2, _⟩ := I.tuple hb
  refine HT.cat_tup p1 p2 (fun z => hx (r1.nil_iff.mp z)) (fun z => absurd (r2.nil_iff.mp z) hy) (fun z => ?_) (by rw [← r1.length, ← r2.length]; exact hz)
  exact laidT (tk := s.toks) I (by rw [List.length_append]; exact hz) (r1.append r2) (q2 hx hy)
def rSlTN (K : PySem.W.Frag) : V → Option Int → Option Int → Hp → VK → Prop := fun x lo hi H Q => ∃ a xs, x = .ref a ∧ SqT K H a xs ∧
  (HT.sIx xs.length 0 lo = 0 ∧ HT.sIx xs.length xs.length hi = xs.length → Q (.ref a) H) ∧ (¬ (HT.sIx xs.length 0 lo = 0 ∧ HT.sIx xs.length xs.length hi = xs.length) → NewT (cutV xs lo hi) Q H)
theorem sl_tupN : SlR X (rSlTN X.K) := by
  intro pins s σ H x v vl vu lo hi sl Q I rx hs pl pu h
  obtain ⟨a, xs, rfl, hx, q1, q2⟩ := h
  by_cases hw : HT.sIx xs.length 0 lo = 0 ∧ HT.sIx xs.length xs.length hi = xs.length
  · exact sl_tupA pins s σ H _ v vl vu lo hi sl Q I rx hs pl pu ⟨a, xs, rfl, hx, q1, fun h => absurd hw h⟩
  · cases rx
    obtain ⟨its, r, ht, hz⟩ := I.tuple hx
    have hlen : its.toArray.size = xs.length := by rw [List.size_toArray]; exact r.length.symm
    refine ⟨"tuple", _, PyProof.Rows.slot_tuple_getitem.lookup, ht.typeIs, ?_⟩
    refine HT.getItem_tuple_cut ht hs pl pu (by rw [hlen]; exact hw) ?_ (by rw [hlen]; exact hz)
    rw [hlen]
    exact laidT (tk := s.toks) I (Nat.le_trans (cutV_length xs lo hi) hz) ((r.drop (HT.sIx xs.length 0 lo)).take (HT.sIx xs.length xs.length hi - HT.sIx xs.length 0 lo)) (q2 hw)
def rTupOfN (K : PySem.W.Frag) : List V → Hp → VK → Prop := fun xs H Q => ∃ p ys, xs = [.ref p] ∧ ((SqL K H p ys ∧ NewT ys Q H) ∨ (SqT K H p ys ∧ Q (.ref p) H))
theorem call_tuple_ofN : CallR X (.type "tuple") (rTupOfN X.K) := by
  intro pins s σ H xs us Q I r h
  obtain ⟨p, ys, rfl, h⟩ := h
  rcases h with ⟨hq, q⟩ | h
  · obtain ⟨u, rfl, rx⟩ := vals1 r
    cases rx
    obtain ⟨its, r', pl, hz⟩ := I.list hq
    have hlen := r'.length
    refine call_tuple_list pl.isList (fun h' kp => ?_) (by simp only [List.size_toArray] <;> omega)
    have I1 : Inv X pins σ H { s with heap := h' } := I.kept (t' := s.toks) kp
    exact laidT (tk := s.toks) I1 hz r' q
  · exact call_tuple_of pins s σ H _ us Q I r ⟨p, ys, rfl, .inr h⟩
end
end AL
namespace AL
open PySem PySem.Spec L2
variable {B : Bs}
abbrev AE' := ASt → AH → (D → AH → Prop) → Prop
abbrev AT' := ASt → AH → (Bool → AH → Prop) → Prop
abbrev AA' := ASt → AH → (List D → AH → Prop) → Prop
structure AEnds where
  nx : ASt → AH → Prop
  rt : D → AH → Prop
  bk : ASt → AH → Prop := fun _ _ => False
  ct : ASt → AH → Prop := fun _ _ => False
abbrev AS' := AEnds → ASt → AH → Prop
abbrev AG' := D → ASt → AH → (ASt → AH → Prop) → Prop
/-- what is walked: the items, what must stay so, the cells -/
abbrev AI' := ASt → AH → (List D → (AH → Prop) → AH → Prop) → Prop
abbrev ASp := List D → AH → (D → AH → Prop) → Prop
section
variable (B : Bs) (K : PySem.W.Frag)
def SimE (te : TE) (a : AE') : Prop := ∀ (σ : L2.St) (s : ASt) (F : Hp) (C : AH) (R H : Hp) (Q : VK) (P : D → AH → Prop), Slo K F s σ → Sat B K F C R H → a s C P →
  (∀ d v F' C' H', Ex F F' → Sat B K F' C' R H' → Rep K F' v d → P d C' → Q v H') → te σ H Q
def SimT (tt : TT) (a : AT') : Prop := ∀ (σ : L2.St) (s : ASt) (F : Hp) (C : AH) (R H : Hp) (Q : Bool → Hp → Prop) (P : Bool → AH → Prop), Slo K F s σ → Sat B K F C R H → a s C P →
  (∀ b F' C' H', Ex F F' → Sat B K F' C' R H' → P b C' → Q b H') → tt σ H Q
def SimA (n : Nat) (ta : TA) (a : AA') : Prop := ∀ (σ : L2.St) (s : ASt) (F : Hp) (C : AH) (R H : Hp) (Q : List V → Hp → Prop) (P : List D → AH → Prop), Slo K F s σ → Sat B K F C R H → a s C P →
  (∀ ds vs F' C' H', Ex F F' → Sat B K F' C' R H' → RepL K F' vs ds → ds.length = n → P ds C' → Q vs H') → ta σ H Q
structure EndsR (F R : Hp) (E : AEnds) (D' : Ends) : Prop where
  nx : ∀ s σ F' C' H', Ex F F' → Slo K F' s σ → Sat B K F' C' R H' → E.nx s C' → D'.nx σ H'
  rt : ∀ d v F' C' H', Ex F F' → Rep K F' v d → Sat B K F' C' R H' → E.rt d C' → D'.rt v H'
  bk : ∀ s σ F' C' H', Ex F F' → Slo K F' s σ → Sat B K F' C' R H' → E.bk s C' → D'.bk σ H'
  ct : ∀ s σ F' C' H', Ex F F' → Slo K F' s σ → Sat B K F' C' R H' → E.ct s C' → D'.ct σ H'
def SimS (ts : TS) (a : AS') : Prop := ∀ (D' : Ends) (E : AEnds) (σ : L2.St) (s : ASt) (F : Hp) (C : AH) (R H : Hp), EndsR B K F R E D' → Slo K F s σ → Sat B K F C R H → a E s C → ts D' σ H
def SimG (g : TG) (a : AG') : Prop := ∀ (v : V) (d : D) (σ : L2.St) (s : ASt) (F : Hp) (C : AH) (R H : Hp) (Q : L2.St → Hp → Prop) (P : ASt → AH → Prop), Slo K F s σ → Sat B K F C R H → Rep K F v d → a d s C P →
  (∀ s' σ' F' C' H', Ex F F' → Slo K F' s' σ' → Sat B K F' C' R H' → P s' C' → Q σ' H') → g v σ H Q
/-- an iterator walks the items -/
structure Walks (F : Hp) (items : List D) (hold : AH → Prop) (J : It) : Prop where
  stop : ∀ F' C' R' H', Ex F F' → Sat B K F' C' R' H' → hold C' → J.stop items.length H'
  go : ∀ F' C' R' H' i, Ex F F' → Sat B K F' C' R' H' → hold C' → i < items.length → J.go i H'
  yld : ∀ F' C' R' H' i x H'', Ex F F' → Sat B K F' C' R' H' → hold C' → i < items.length → J.yld i H' x H'' → ∃ d F'', items[i]? = some d ∧ Ex F' F'' ∧ Sat B K F'' C' R' H'' ∧ Rep K F'' x d
def SimI (wi : TI) (a : AI') : Prop := ∀ (σ : L2.St) (s : ASt) (F : Hp) (C : AH) (R H : Hp) (Q : It → Hp → Prop) (P : List D → (AH → Prop) → AH → Prop), Slo K F s σ → Sat B K F C R H → a s C P →
  (∀ items hold J F' C' H', Ex F F' → Sat B K F' C' R H' → Walks B K F' items hold J → P items hold C' → Q J H') → wi σ H Q
def SimR2 (r : R2) (a : D → D → AH → (D → AH → Prop) → Prop) : Prop := ∀ (v w : V) (d e : D) (F : Hp) (C : AH) (R H : Hp) (Q : VK) (P : D → AH → Prop), Sat B K F C R H → Rep K F v d → Rep K F w e → a d e C P →
  (∀ d v F' C' H', Ex F F' → Sat B K F' C' R H' → Rep K F' v d → P d C' → Q v H') → r v w H Q
def SimR1 (r : V → Hp → VK → Prop) (a : D → AH → (D → AH → Prop) → Prop) : Prop := ∀ (v : V) (d : D) (F : Hp) (C : AH) (R H : Hp) (Q : VK) (P : D → AH → Prop), Sat B K F C R H → Rep K F v d → a d C P →
  (∀ d v F' C' H', Ex F F' → Sat B K F' C' R H' → Rep K F' v d → P d C' → Q v H') → r v H Q
def SimRL (r : List V → Hp → VK → Prop) (a : ASp) : Prop := ∀ (vs : List V) (ds : List D) (F : Hp) (C : AH) (R H : Hp) (Q : VK) (P : D → AH → Prop), Sat B K F C R H → RepL K F vs ds → a ds C P →
  (∀ d v F' C' H', Ex F F' → Sat B K F' C' R H' → Rep K F' v d → P d C' → Q v H') → r vs H Q
def SimRM (r : V → List V → Hp → VK → Prop) (a : D → ASp) : Prop := ∀ (v : V) (d : D) (vs : List V) (ds : List D) (F : Hp) (C : AH) (R H : Hp) (Q : VK) (P : D → AH → Prop), Sat B K F C R H → Rep K F v d → RepL K F vs ds → a d ds C P →
  (∀ d v F' C' H', Ex F F' → Sat B K F' C' R H' → Rep K F' v d → P d C' → Q v H') → r v vs H Q
end
structure AE (B : Bs) (X : Cx) (e : Expr) (te : TE) (a : AE') : Prop where
  pe : PE X e te
  sim : SimE B X.K te a
structure AT (B : Bs) (X : Cx) (e : Expr) (tt : TT) (a : AT') : Prop where
  pt : PT X e tt
  sim : SimT B X.K tt a
structure AW (B : Bs) (X : Cx) (e : Expr) (tt : TT) (a : AT') : Prop where
  pw : PW X e tt
  sim : SimT B X.K tt a
structure ATs (B : Bs) (X : Cx) (es : List Expr) (tt : TT) (a : AT') : Prop where
  pts : PTs X es tt
  sim : SimT B X.K tt a
structure AA (B : Bs) (X : Cx) (es : List Expr) (n : Nat) (ta : TA) (a : AA') : Prop where
  pa : PA X es ta
  sim : SimA B X.K n ta a
structure AS (B : Bs) (X : Cx) (st : Stmt) (ts : TS) (a : AS') : Prop where
  ps : PS X st ts
  sim : SimS B X.K ts a
structure ASs (B : Bs) (X : Cx) (st : List Stmt) (ts : TS) (a : AS') : Prop where
  ps : PSs X st ts
  sim : SimS B X.K ts a
/-- a target stores to the slots vs alone -/
def GIn (vs : List Nat) (g : TG) : Prop := ∀ x σ H (Q Q' : L2.St → Hp → Prop), g x σ H Q → (∀ σ2 H2, L2.wipe σ2 vs = L2.wipe σ vs → Q σ2 H2 → Q' σ2 H2) → g x σ H Q'
structure AG (B : Bs) (X : Cx) (e : Expr) (vs : List Nat) (g : TG) (a : AG') : Prop where
  pg : PG X e g
  sim : SimG B X.K g a
  inn : GIn vs g
structure AI (B : Bs) (X : Cx) (tg e : Expr) (wi : TI) (a : AI') : Prop where
  pi : PI X tg e wi
  sim : SimI B X.K wi a
def aVar (i : Nat) : AE' := fun s C P => match s[i]? with | some (some d) => P d C | _ => False
def aC (d : D) : AE' := fun _ C P => P d C
section
variable {X : Cx} {pos : Pos} {K : PySem.W.Frag}
theorem sim_var (i : Nat) : SimE B K (tVar i) (aVar i) := by
  intro σ s F C R H Q P hs hS h k
  unfold aVar at h
  split at h
  · rename_i d e
    obtain ⟨v, h1, h2⟩ := hs.at' i d e
    exact ⟨v, h1, k d v F C H (Ex.refl F) hS h2 h⟩
  · exact h.elim
theorem ae_v (i : Nat) {x : Str} (hN : X.N[i]? = some x := by rfl) (hv : Vis X.env.scope x := by first | exact Or.inl rfl | exact Or.inr (Or.inl rfl) | exact Or.inr (Or.inr rfl)) (hd : (x == ("__debug__" : Str)) = false := by decide)
    (hcd : (x == ("__classdict__" : Str)) = false := by decide) : AE B X (.Name x pos) (tVar i) (aVar i) := ⟨pe_var hN hv hd hcd, sim_var i⟩
theorem sim_c {v : V} {d : D} (h : ∀ F, Rep K F v d) : SimE B K (tC v) (aC d) := fun σ s F C R H Q P hs hS a k => k d v F C H (Ex.refl F) hS (h F) a
theorem ae_int {i j} : AE B X (.Constant (.int i) j pos) (tC (.int i)) (aC (.int i)) := ⟨pe_int, sim_c fun _ => .int i⟩
theorem ae_bl {b j} : AE B X (.Constant (.bool b) j pos) (tC (.bl b)) (aC (.bl b)) := ⟨pe_bl, sim_c fun _ => .bl b⟩
theorem ae_non {j} : AE B X (.Constant .none j pos) (tC .non) (aC .non) := ⟨pe_non, sim_c fun _ => .non⟩
theorem ae_str {x j} : AE B X (.Constant (.str x) j pos) (tC (.str x)) (aC (.str x)) := ⟨pe_str, sim_c fun _ => .str x⟩
def aOp (r : D → D → AH → (D → AH → Prop) → Prop) (a b : AE') : AE' := fun s C P => a s C fun x C1 => b s C1 fun y C2 => r x y C2 P
def aUn (r : D → AH → (D → AH → Prop) → Prop) (a : AE') : AE' := fun s C P => a s C fun x C1 => r x C1 P
theorem sim_op {r : R2} {ar} {ta tb : TE} {a b : AE'} (hr : SimR2 B K r ar) (ha : SimE B K ta a) (hb : SimE B K tb b) : SimE B K (tOp r ta tb) (aOp ar a b) := by
  intro σ s F C R H Q P hs hS h k
  refine ha σ s F C R H _ _ hs hS h fun x v F1 C1 H1 e1 S1 r1 h1 => ?_
  refine hb σ s F1 C1 R H1 _ _ (hs.mono e1) S1 h1 fun y w F2 C2 H2 e2 S2 r2 h2 => ?_
  exact hr v w x y F2 C2 R H2 Q P S2 (r1.mono e2) r2 h2 fun d u F3 C3 H3 e3 S3 r3 h3 => k d u F3 C3 H3 ((e1.trans e2).trans e3) S3 r3 h3
theorem sim_un {r : V → Hp → VK → Prop} {ar} {ta : TE} {a : AE'} (hr : SimR1 B K r ar) (ha : SimE B K ta a) : SimE B K (tUn r ta) (aUn ar a) := by
  intro σ s F C R H Q P hs hS h k
  refine ha σ s F C R H _ _ hs hS h fun x v F1 C1 H1 e1 S1 r1 h1 => ?_
  exact hr v x F1 C1 R H1 Q P S1 r1 h1 fun d u F3 C3 H3 e3 S3 r3 h3 => k d u F3 C3 H3 (e1.trans e3) S3 r3 h3
/-- an operation f by values -/
structure AOp (B : Bs) (X : Cx) (f : Value → Value → Sem Value) (r : R2) (a : D → D → AH → (D → AH → Prop) → Prop) : Prop where
  op : OpR X f r
  sim : SimR2 B X.K r a
theorem ae_op {o : Operator} {r ar} {a b : Expr} {ta tb : TE} {aa ab : AE'} (ho : AOp B X (binaryOp o) r ar) (ha : AE B X a ta aa) (hb : AE B X b tb ab) : AE B X (.BinOp a o b pos) (tOp r ta tb) (aOp ar aa ab) := ⟨pe_op ho.op ha.pe hb.pe, sim_op ho.sim ha.sim hb.sim⟩
theorem ae_cmp {o : CmpOp} {r ar} {a b : Expr} {ta tb : TE} {aa ab : AE'} (ho : AOp B X (compareOp o) r ar) (ha : AE B X a ta aa) (hb : AE B X b tb ab) (hm : behindInMarks o b = false := by first | exact nomark _ | with_unfolding_all rfl) : AE B X (.Compare a [o] [b] pos) (tOp r ta tb) (aOp ar aa ab) :=
  ⟨pe_cmpR ho.op ha.pe hb.pe hm, sim_op ho.sim ha.sim hb.sim⟩
theorem SimR2.or {r r' : R2} {ar ar'} (h : SimR2 B K r ar) (h' : SimR2 B K r' ar') : SimR2 B K (fun x y H Q => r x y H Q ∨ r' x y H Q) (fun x y C P => ar x y C P ∨ ar' x y C P) := by
  intro v w d e F C R H Q P hS r1 r2 h0 k
  rcases h0 with q | q
  · exact .inl (h v w d e F C R H Q P hS r1 r2 q k)
  · exact .inr (h' v w d e F C R H Q P hS r1 r2 q k)
theorem SimR2.imp {r : R2} {ar ar' : D → D → AH → (D → AH → Prop) → Prop} (h : SimR2 B K r ar) (i : ∀ d e C P, ar' d e C P → ar d e C P) : SimR2 B K r ar' := fun v w d e F C R H Q P hS r1 r2 h0 k => h v w d e F C R H Q P hS r1 r2 (i d e C P h0) k
/-- ints in, a flat value out -/
def aI (c : Int → Int → Prop) (g : Int → Int → D) : D → D → AH → (D → AH → Prop) → Prop := fun x y C P => match x, y with
  | .int i, .int j => c i j ∧ P (g i j) C
  | _, _ => False
theorem simI {c : Int → Int → Prop} {g : Int → Int → V} {g' : Int → Int → D} (hg : ∀ F i j, Rep K F (g i j) (g' i j)) : SimR2 B K (rI c g) (aI c g') := by
  intro v w d e F C R H Q P hS r1 r2 h k
  unfold aI at h
  split at h
  · cases r1; cases r2
    exact ⟨_, _, rfl, rfl, h.1, k _ _ F C H (Ex.refl F) hS (hg F _ _) h.2⟩
  · exact h.elim
def aI0 (g : Int → Int → D) : D → D → AH → (D → AH → Prop) → Prop := fun x y C P => match x, y with
  | .int i, .int j => P (g i j) C
  | _, _ => False
theorem simI0 {g : Int → Int → V} {g' : Int → Int → D} (hg : ∀ F i j, Rep K F (g i j) (g' i j)) : SimR2 B K (rI0 g) (aI0 g') := by
  intro v w d e F C R H Q P hS r1 r2 h k
  unfold aI0 at h
  split at h
  · cases r1; cases r2
    exact ⟨_, _, rfl, rfl, k _ _ F C H (Ex.refl F) hS (hg F _ _) h⟩
  · exact h.elim
def aSub := aI0 fun i j => .int (i - j)
def aMul := aI CMul fun i j => .int (i * j)
def aDiv := aI CDiv fun i j => .int (i / j)
def aMod := aI (fun _ j => 0 < j) fun i j => .int (i % j)
def aLt := aI0 fun i j => .bl (decide (i < j))
def aLe := aI0 fun i j => .bl (decide (i ≤ j))
def aGt := aI0 fun i j => .bl (decide (j < i))
def aGe := aI0 fun i j => .bl (decide (j ≤ i))
def aPow := aI CPow fun i j => .int (i ^ j.toNat)
theorem ao_sub : AOp B X (binaryOp .Sub) (rI0 fun i j => .int (i - j)) aSub := ⟨op_sub, simI0 fun _ _ _ => .int _⟩
theorem ao_mul : AOp B X (binaryOp .Mult) (rI CMul fun i j => .int (i * j)) aMul := ⟨op_mul, simI fun _ _ _ => .int _⟩
theorem ao_div : AOp B X (binaryOp .FloorDiv) (rI CDiv fun i j => .int (i / j)) aDiv := ⟨op_fdiv, simI fun _ _ _ => .int _⟩
theorem ao_mod : AOp B X (binaryOp .Mod) (rI (fun _ j => 0 < j) fun i j => .int (i % j)) aMod := ⟨op_mod, simI fun _ _ _ => .int _⟩
theorem ao_pow : AOp B X (binaryOp .Pow) (rI CPow fun i j => .int (i ^ j.toNat)) aPow := ⟨op_pow, simI fun _ _ _ => .int _⟩
theorem ao_lt : AOp B X (compareOp .Lt) (rI0 fun i j => .bl (decide (i < j))) aLt := ⟨op_lt, simI0 fun _ _ _ => .bl _⟩
theorem ao_le : AOp B X (compareOp .LtE) (rI0 fun i j => .bl (decide (i ≤ j))) aLe := ⟨op_le, simI0 fun _ _ _ => .bl _⟩
theorem ao_gt : AOp B X (compareOp .Gt) (rI0 fun i j => .bl (decide (j < i))) aGt := ⟨op_gt, simI0 fun _ _ _ => .bl _⟩
theorem ao_ge : AOp B X (compareOp .GtE) (rI0 fun i j => .bl (decide (j ≤ i))) aGe := ⟨op_ge, simI0 fun _ _ _ => .bl _⟩
def asL (C : AH) : D → Option (List D)
  | .lst ds => some ds
  | .ce p => match C p with | some (.lst ds) => some ds | _ => none
  | _ => none
def asLr (C : AH) : D → Option (List D)
  | .scr ns => some (ns.map D.int)
  | d => asL C d
def asT : D → Option (List D)
  | .tup ds => some ds
  | _ => none
section
variable {F : Hp} {C : AH} {R H : Hp} {v : V} {d : D} {ds : List D}
theorem asL_ok (hS : Sat B K F C R H) (r : Rep K F v d) (h : asL C d = some ds) : ∃ a xs, v = .ref a ∧ H a = some (.lst xs) ∧ RepL K F xs ds := by
  cases r with
  | lst e q => cases h; exact ⟨_, _, rfl, hS.ex _ _ e, q⟩
  | ce p =>
    simp only [asL] at h
    split at h
    · rename_i e
      cases h
      obtain ⟨_, o, h1, h2⟩ := hS.cell p _ e
      cases h2 with
      | lst q => exact ⟨p, _, rfl, h1, q⟩
    · cases h
  | _ => cases h
theorem asLr_ok (hS : Sat B K F C R H) (r : Rep K F v d) (h : asLr C d = some ds) : ∃ a xs, v = .ref a ∧ SqL K H a xs ∧ RepL K F xs ds := by
  cases d with
  | scr ns =>
    cases r with
    | scr e => cases h; exact ⟨_, _, rfl, hS.ex.l e, .ints ns⟩
  | _ =>
    obtain ⟨a, xs, h1, h2, h3⟩ := asL_ok hS r (show asL C _ = some ds from h)
    exact ⟨a, xs, h1, SqL.of h2, h3⟩
theorem asT_ok (hS : Sat B K F C R H) (r : Rep K F v d) (h : asT d = some ds) : ∃ a xs, v = .ref a ∧ Rd H a (.tup xs) ∧ RepL K F xs ds := by
  cases r with
  | tup e q => cases h; exact ⟨_, _, rfl, rdUp e.1 hS.ex, q⟩
  | _ => cases h
end
/-- the order matters: what stands ahead is tried first -/
def aAdd : D → D → AH → (D → AH → Prop) → Prop := fun x y C P => match x, y with
  | .int i, .int j => P (.int (i + j)) C
  | .str i, .str j => i.length + j.length ≤ sizeLine ∧ P (.str (i ++ j)) C
  | .tup xs, .tup ys => xs.length + ys.length ≤ sizeLine ∧ P (.tup (xs ++ ys)) C
  | x, y => ∃ xs ys, asL C x = some xs ∧ asL C y = some ys ∧ xs.length + ys.length ≤ sizeLine ∧ P (.lst (xs ++ ys)) C
def rAddA (K : PySem.W.Frag) : R2 := fun x y H Q => (rI0 (fun i j => .int (i + j)) x y H Q ∨ (∃ i j, x = .str i ∧ y = .str j ∧ i.length + j.length ≤ sizeLine ∧ Q (.str (i ++ j)) H)) ∨ rCatTN K x y H Q ∨ rCat x y H Q
theorem sim_add : SimR2 B K (rAddA K) aAdd := by
  intro v w d e F C R H Q P hS r1 r2 h k
  unfold aAdd at h
  split at h
  · cases r1; cases r2
    exact .inl (.inl ⟨_, _, rfl, rfl, k _ _ F C H (Ex.refl F) hS (.int _) h⟩)
  · cases r1; cases r2
    exact .inl (.inr ⟨_, _, rfl, rfl, h.1, k _ _ F C H (Ex.refl F) hS (.str _) h.2⟩)
  · cases r1 with
    | @tup a xs us h1 q1 =>
      cases r2 with
      | @tup b ys ws h2 q2 =>
        refine .inr (.inl ⟨a, b, xs, ys, rfl, rfl, h1.sq hS.ex, h2.sq hS.ex, by rw [q1.length, q2.length]; exact h.1, fun z => ?_, fun _ z => ?_, fun _ _ p ob hob hp => ?_⟩)
        · subst z
          cases q1
          exact k _ _ F C H (Ex.refl F) hS (.tup h2 q2) h.2
        · subst z
          cases q2
          have := h.2
          rw [List.append_nil] at this
          exact k _ _ F C H (Ex.refl F) hS (.tup h1 q1) this
        · have e := Ex.new (o := .frz ob (.tup (xs ++ ys))) (hS.freeF hp)
          exact k _ _ _ C _ e (hS.newF hp _) (.tup (.frz hob upd_same) ((q1.append q2).mono e)) h.2
  · obtain ⟨xs', ys', h1, h2, hl, h3⟩ := h
    obtain ⟨a, xs, e1, ha, q1⟩ := asL_ok hS r1 h1
    obtain ⟨b, ys, e2, hb, q2⟩ := asL_ok hS r2 h2
    refine .inr (.inr ⟨a, b, xs, ys, e1, e2, ha, hb, by rw [q1.length, q2.length]; exact hl, fun p hp => ?_⟩)
    have e := Ex.new (o := .lst (xs ++ ys)) (hS.freeF hp)
    exact k _ _ _ C _ e (hS.newF hp _) (.lst upd_same ((q1.append q2).mono e)) h3
theorem ao_add (hK : X.K = K := by rfl) : AOp B X (binaryOp .Add) (rAddA K) aAdd := by
  subst hK
  exact ⟨(op_add.or op_add_str).or (op_catTN.or op_cat), sim_add⟩
/-- xs + ys, a list that will be changed -/
def aAddM : D → D → AH → (D → AH → Prop) → Prop := fun x y C P => ∃ xs ys, asL C x = some xs ∧ asL C y = some ys ∧ xs.length + ys.length ≤ sizeLine ∧ ∀ p, C p = none → P (.ce p) (put C p (.lst (xs ++ ys)))
theorem sim_addM : SimR2 B K rCat aAddM := by
  intro v w d e F C R H Q P hS r1 r2 h k
  obtain ⟨xs', ys', h1, h2, hl, h3⟩ := h
  obtain ⟨a, xs, e1, ha, q1⟩ := asL_ok hS r1 h1
  obtain ⟨b, ys, e2, hb, q2⟩ := asL_ok hS r2 h2
  refine ⟨a, b, xs, ys, e1, e2, ha, hb, by rw [q1.length, q2.length]; exact hl, fun p hp => ?_⟩
  exact k _ _ F _ _ (Ex.refl F) (hS.newC hp (.lst (q1.append q2))) (.ce p) (h3 p (hS.freeC hp))
theorem ao_addM : AOp B X (binaryOp .Add) rCat aAddM := ⟨op_cat, sim_addM⟩
end
end AL
namespace AL
open PySem PySem.Spec L2
variable {B : Bs}
section
variable {X : Cx} {pos : Pos} {K : PySem.W.Frag}
mutual
/-- the tree as the library's data (none: a cell within it) -/
def D.pd : D → Option PyData
  | .non => some .none
  | .bl b => some (.bool b)
  | .int i => some (.int i)
  | .str x => some (.str x)
  | .lst ds => (pdL ds).map .list
  | .tup ds => (pdL ds).map .tuple
  | .scr ns => some (.list (ns.map .int))
  | _ => none
def pdL : List D → Option (List PyData)
  | [] => some []
  | d :: ds => match D.pd d, pdL ds with | some x, some xs => some (x :: xs) | _, _ => none
end
def pdC (C : AH) : D → Option PyData
  | .ce p => match C p with | some (.lst ds) => (pdL ds).map .list | _ => none
  | d => d.pd
mutual
theorem Rep.dp {F H : Hp} (e : Ex F H) : ∀ {d : D} {v : V} {x : PyData}, Rep K F v d → d.pd = some x → Dp K H v x
  | .non, _, _, r, h => by cases r; cases h; exact .non
  | .bl b, _, _, r, h => by cases r; cases h; exact .bl b
  | .int i, _, _, r, h => by cases r; cases h; exact .int i
  | .str x, _, _, r, h => by cases r; cases h; exact .str x
  | .lst ds, _, _, r, h => by
    cases r with
    | lst h1 h2 =>
      unfold D.pd at h
      cases q : pdL ds with
      | none => rw [q] at h; cases h
      | some xs => rw [q] at h; cases h; exact .lst (SqL.of (e _ _ h1)) (RepL.dp e h2 q)
  | .tup ds, _, _, r, h => by
    cases r with
    | tup h1 h2 =>
      unfold D.pd at h
      cases q : pdL ds with
      | none => rw [q] at h; cases h
      | some xs => rw [q] at h; cases h; exact .tup (h1.sq e) (RepL.dp e h2 q)
  | .scr ns, _, _, r, h => by
    cases r with
    | scr h1 => 
      cases h
      refine .lst (e.l h1) ?_
      clear h1
      induction ns with
      | nil => exact .nil
      | cons n ns ih => exact .cons (.int n) ih
  | .dk _, _, _, _, h => by unfold D.pd at h; cases h
  | .ce _, _, _, _, h => by unfold D.pd at h; cases h
theorem RepL.dp {F H : Hp} (e : Ex F H) : ∀ {ds : List D} {vs : List V} {xs : List PyData}, RepL K F vs ds → pdL ds = some xs → DpAll K H vs xs
  | [], _, _, r, h => by cases r; cases h; exact .nil
  | d :: ds, _, _, r, h => by
    cases r with
    | cons r1 r2 =>
      unfold pdL at h
      split at h
      · rename_i q1 q2
        cases h
        exact .cons (Rep.dp e r1 q1) (RepL.dp e r2 q2)
      · cases h
end
theorem pdC_ok {F : Hp} {C : AH} {R H : Hp} {v : V} {d : D} {x : PyData} (hS : Sat B K F C R H) (r : Rep K F v d) (h : pdC C d = some x) : Dp K H v x := by
  cases d with
  | ce p =>
    cases r
    simp only [pdC] at h
    split at h
    · rename_i ds e
      cases q : pdL ds with
      | none => rw [q] at h; cases h
      | some xs =>
        rw [q] at h; cases h
        obtain ⟨_, o, h1, h2⟩ := hS.cell p _ e
        cases h2 with
        | lst h3 => exact .lst (SqL.of h1) (RepL.dp hS.ex h3 q)
    · cases h
  | _ => exact Rep.dp hS.ex r h
/-- flat values, == by itself -/
def eqS : D → D → Option Bool
  | .non, .non => some true
  | .non, .int _ => some false
  | .int _, .non => some false
  | .non, .bl _ => some false
  | .bl _, .non => some false
  | .non, .str _ => some false
  | .str _, .non => some false
  | .int i, .int j => some (decide (i = j))
  | .bl i, .bl j => some (decide (i = j))
  | .str i, .str j => some (decide (i = j))
  | .int _, .str _ => some false
  | .str _, .int _ => some false
  | .bl _, .str _ => some false
  | .str _, .bl _ => some false
  | _, _ => none
theorem eqS_ok {F : Hp} {v w : V} {d e : D} {b : Bool} (r1 : Rep K F v d) (r2 : Rep K F w e) (h : eqS d e = some b) : scal v w = true ∧ decide (v = w) = b := by
  unfold eqS at h
  split at h <;> first | (cases h; done) | (cases r1; cases r2; cases h; refine ⟨rfl, ?_⟩; first | rfl | (apply Bool.eq_iff_iff.mpr; simp; done))
def aEqN (neg : Bool) : D → D → AH → (D → AH → Prop) → Prop := fun x y C P => match eqS x y with
  | some b => P (.bl (if neg then !b else b)) C
  | none => ∃ d e, pdC C x = some d ∧ pdC C y = some e ∧ SeqAt.shaped d = true ∧ SeqAt.shaped e = true ∧ P (.bl (if neg then !PyData.eqv d e else PyData.eqv d e)) C
def aEq := aEqN false
def aNe := aEqN true
theorem sim_eq : SimR2 B K (fun x y H Q => rEq x y H Q ∨ rEqD K x y H Q) aEq := by
  intro v w d e F C R H Q P hS r1 r2 h k
  unfold aEq aEqN at h
  split at h
  · rename_i b q
    obtain ⟨h1, h2⟩ := eqS_ok r1 r2 q
    exact .inl ⟨h1, k _ _ F C H (Ex.refl F) hS (by rw [h2]; exact .bl b) h⟩
  · obtain ⟨d', e', h1, h2, s1, s2, h3⟩ := h
    exact .inr ⟨d', e', pdC_ok hS r1 h1, pdC_ok hS r2 h2, s1, s2, k _ _ F C H (Ex.refl F) hS (.bl _) h3⟩
theorem sim_ne : SimR2 B K (fun x y H Q => rNe x y H Q ∨ rNeD K x y H Q) aNe := by
  intro v w d e F C R H Q P hS r1 r2 h k
  unfold aNe aEqN at h
  split at h
  · rename_i b q
    obtain ⟨h1, h2⟩ := eqS_ok r1 r2 q
    exact .inl ⟨h1, k _ _ F C H (Ex.refl F) hS (by rw [h2]; exact .bl _) h⟩
  · obtain ⟨d', e', h1, h2, s1, s2, h3⟩ := h
    exact .inr ⟨d', e', pdC_ok hS r1 h1, pdC_ok hS r2 h2, s1, s2, k _ _ F C H (Ex.refl F) hS (.bl _) h3⟩
theorem ao_eq (hu : X.A.units + 64 < cLine) (hK : X.K = K := by rfl) : AOp B X (compareOp .Eq) (fun x y H Q => rEq x y H Q ∨ rEqD K x y H Q) aEq := by
  subst hK
  exact ⟨op_eq.or (op_eqD hu), sim_eq⟩
theorem ao_ne (hu : X.A.units + 64 < cLine) (hK : X.K = K := by rfl) : AOp B X (compareOp .NotEq) (fun x y H Q => rNe x y H Q ∨ rNeD K x y H Q) aNe := by
  subst hK
  exact ⟨op_ne.or (op_neD hu), sim_ne⟩
/-- is None -/
def isNon : D → Bool
  | .non => true
  | _ => false
def aIsN : D → D → AH → (D → AH → Prop) → Prop := fun x y C P => isNon y = true ∧ P (.bl (isNon x)) C
def aNotN : D → D → AH → (D → AH → Prop) → Prop := fun x y C P => isNon y = true ∧ P (.bl (!isNon x)) C
theorem isNon_ok {F : Hp} {v : V} {d : D} (r : Rep K F v d) : decide (v = .non) = isNon d := by
  cases r <;> rfl
theorem ao_is : AOp B X (compareOp .Is) (fun x y H Q => y = .non ∧ Q (.bl (decide (x = .non))) H) aIsN := ⟨op_isN, by
  intro v w d e F C R H Q P hS r1 r2 h k
  refine ⟨of_decide_eq_true ((isNon_ok r2).trans h.1), k _ _ F C H (Ex.refl F) hS (by rw [isNon_ok r1]; exact .bl _) h.2⟩⟩
theorem ao_isnot : AOp B X (compareOp .IsNot) (fun x y H Q => y = .non ∧ Q (.bl (!decide (x = .non))) H) aNotN := ⟨op_notN, by
  intro v w d e F C R H Q P hS r1 r2 h k
  refine ⟨of_decide_eq_true ((isNon_ok r2).trans h.1), k _ _ F C H (Ex.refl F) hS (by rw [isNon_ok r1]; exact .bl _) h.2⟩⟩
def truth (C : AH) : D → Option Bool
  | .non => some false
  | .bl b => some b
  | .int i => some (i != 0)
  | .str x => if x.length ≤ sizeLine then some ((x.length : Int) != 0) else none
  | .lst ds => some (!ds.isEmpty)
  | .tup ds => some (!ds.isEmpty)
  | .scr ns => some (!ns.isEmpty)
  | .dk kvs => some (!kvs.isEmpty)
  | .ce p => match C p with | some (.lst ds) => some (!ds.isEmpty) | some (.dk kvs) => some (!kvs.isEmpty) | _ => none
theorem RepL.empty {F : Hp} {vs : List V} {ds : List D} (r : RepL K F vs ds) : (!vs.isEmpty) = !ds.isEmpty := by cases r <;> rfl
theorem RepK.empty {F : Hp} {vs : List (Key × V)} {ds : List (Key × D)} (r : RepK K F vs ds) : (!vs.isEmpty) = !ds.isEmpty := by cases r <;> rfl
theorem truth_ok {F : Hp} {C : AH} {R H : Hp} {v : V} {d : D} {b : Bool} (hS : Sat B K F C R H) (r : Rep K F v d) (h : truth C d = some b) : TruV K v H b := by
  cases r with
  | non => cases h; rfl
  | bl b => cases h; rfl
  | int i => cases h; rfl
  | str x =>
    simp only [truth] at h
    split at h
    · rename_i hz
      cases h
      exact ⟨hz, rfl⟩
    · cases h
  | lst e q => cases h; exact .inl ⟨_, SqL.of (hS.ex _ _ e), q.empty.symm⟩
  | tup e q => cases h; exact .inr (.inl ⟨_, e.sq hS.ex, q.empty.symm⟩)
  | dk e q => cases h; exact .inr (.inr ⟨_, hS.ex _ _ e, q.empty.symm⟩)
  | scr e =>
    cases h
    refine .inl ⟨_, hS.ex.l e, ?_⟩
    rename_i ns
    cases ns <;> rfl
  | ce p =>
    simp only [truth] at h
    split at h
    · rename_i e
      cases h
      obtain ⟨_, o, h1, h2⟩ := hS.cell p _ e
      cases h2 with
      | lst q => exact .inl ⟨_, SqL.of h1, q.empty.symm⟩
    · rename_i e
      cases h
      obtain ⟨_, o, h1, h2⟩ := hS.cell p _ e
      cases h2 with
      | dk q => exact .inr (.inr ⟨_, h1, q.empty.symm⟩)
    · cases h
def aTru (a : AE') : AT' := fun s C P => a s C fun x C1 => match truth C1 x with | some b => P b C1 | none => False
theorem sim_tru {ta : TE} {a : AE'} (ha : SimE B K ta a) : SimT B K (fun σ H Q => ta σ H fun x H' => ∃ k, TruV K x H' k ∧ Q k H') (aTru a) := by
  intro σ s F C R H Q P hs hS h k
  refine ha σ s F C R H _ _ hs hS h fun x v F1 C1 H1 e1 S1 r1 h1 => ?_
  split at h1
  · rename_i b q
    exact ⟨b, truth_ok S1 r1 q, k b F1 C1 H1 e1 S1 h1⟩
  · exact h1.elim
theorem at_tru {e : Expr} {te : TE} {a : AE'} (h : AE B X e te a) (he : ∀ whole, isTrue e X.env whole = (do let v ← whole; standAt e.pos; holding [v] (truthy v)) := by intro _; rfl) (hK : X.K = K := by rfl) :
    AT B X e (fun σ H Q => te σ H fun x H' => ∃ k, TruV K x H' k ∧ Q k H') (aTru a) := by
  subst hK
  exact ⟨pt_truth h.pe he, sim_tru h.sim⟩
/-- a comparison's value as a test -/
def aB (a : AE') : AT' := fun s C P => a s C fun x C1 => match x with | .bl b => P b C1 | _ => False
theorem sim_B {ta : TE} {a : AE'} (ha : SimE B K ta a) : SimT B K (tTest ta) (aB a) := by
  intro σ s F C R H Q P hs hS h k
  refine ha σ s F C R H _ _ hs hS h fun x v F1 C1 H1 e1 S1 r1 h1 => ?_
  split at h1
  · cases r1
    exact ⟨_, rfl, k _ F1 C1 H1 e1 S1 h1⟩
  · exact h1.elim
theorem at_cmp {o : CmpOp} {r ar} {a b : Expr} {ta tb : TE} {aa ab : AE'} (ho : AOp B X (compareOp o) r ar) (ha : AE B X a ta aa) (hb : AE B X b tb ab) (hm : behindInMarks o b = false := by first | exact nomark _ | with_unfolding_all rfl) : AT B X (.Compare a [o] [b] pos) (tTest (tOp r ta tb)) (aB (aOp ar aa ab)) :=
  ⟨pt_cmpR ho.op ha.pe hb.pe hm, sim_B (sim_op ho.sim ha.sim hb.sim)⟩
/-- a < b < c -/
def aChain (r r' : D → D → AH → (D → AH → Prop) → Prop) (a b c : AE') : AE' := fun s C P => a s C fun x C1 => b s C1 fun y C2 => r x y C2 fun z C3 => match z with
  | .bl true => c s C3 fun w C4 => r' y w C4 P
  | .bl false => P (.bl false) C3
  | _ => False
theorem sim_chain {r r' : R2} {ar ar'} {ta tb tc : TE} {a b c : AE'} (hr : SimR2 B K r ar) (hr' : SimR2 B K r' ar') (ha : SimE B K ta a) (hb : SimE B K tb b) (hc : SimE B K tc c) : SimE B K (tChain r r' ta tb tc) (aChain ar ar' a b c) := by
  intro σ s F C R H Q P hs hS h k
  refine ha σ s F C R H _ _ hs hS h fun x v F1 C1 H1 e1 S1 r1 h1 => ?_
  refine hb σ s F1 C1 R H1 _ _ (hs.mono e1) S1 h1 fun y w F2 C2 H2 e2 S2 r2 h2 => ?_
  refine hr v w x y F2 C2 R H2 _ _ S2 (r1.mono e2) r2 h2 fun z u F3 C3 H3 e3 S3 r3 h3 => ?_
  split at h3
  · cases r3
    refine ⟨true, rfl, ?_⟩
    rw [if_pos rfl]
    refine hc σ s F3 C3 R H3 _ _ (hs.mono ((e1.trans e2).trans e3)) S3 h3 fun w' u' F4 C4 H4 e4 S4 r4 h4 => ?_
    exact hr' w u' y w' F4 C4 R H4 Q P S4 (r2.mono (e3.trans e4)) r4 h4 fun d u F5 C5 H5 e5 S5 r5 h5 => k d u F5 C5 H5 ((((e1.trans e2).trans e3).trans e4).trans e5) S5 r5 h5
  · cases r3
    refine ⟨false, rfl, ?_⟩
    rw [if_neg Bool.false_ne_true]
    exact k _ _ F3 C3 H3 ((e1.trans e2).trans e3) S3 (.bl false) h3
  · exact h3.elim
theorem ae_chain {o o' : CmpOp} {r r' ar ar'} {a b c : Expr} {ta tb tc : TE} {aa ab ac : AE'} (ho : AOp B X (compareOp o) r ar) (ho' : AOp B X (compareOp o') r' ar') (ha : AE B X a ta aa) (hb : AE B X b tb ab) (hc : AE B X c tc ac)
    (hm : lastMarks [o, o'] [b, c] = false := by first | rfl | with_unfolding_all rfl) : AE B X (.Compare a [o, o'] [b, c] pos) (tChain r r' ta tb tc) (aChain ar ar' aa ab ac) :=
  ⟨pe_chain ho.op ho'.op ha.pe hb.pe hc.pe hm, sim_chain ho.sim ho'.sim ha.sim hb.sim hc.sim⟩
theorem at_chain {o o' : CmpOp} {r r' ar ar'} {a b c : Expr} {ta tb tc : TE} {aa ab ac : AE'} (ho : AOp B X (compareOp o) r ar) (ho' : AOp B X (compareOp o') r' ar') (ha : AE B X a ta aa) (hb : AE B X b tb ab) (hc : AE B X c tc ac)
    (hm : lastMarks [o, o'] [b, c] = false := by first | rfl | with_unfolding_all rfl) : AT B X (.Compare a [o, o'] [b, c] pos) (tTest (tChain r r' ta tb tc)) (aB (aChain ar ar' aa ab ac)) :=
  ⟨pt_chain ho.op ho'.op ha.pe hb.pe hc.pe hm, sim_B (sim_chain ho.sim ho'.sim ha.sim hb.sim hc.sim)⟩
def aAnd (a b : AT') : AT' := fun s C P => a s C fun c C1 => if c = true then b s C1 P else P false C1
def aOr (a b : AT') : AT' := fun s C P => a s C fun c C1 => if c = true then P true C1 else b s C1 P
def aNot (a : AT') : AT' := fun s C P => a s C fun c C1 => P (!c) C1
theorem sim_and {t u : TT} {a b : AT'} (ha : SimT B K t a) (hb : SimT B K u b) : SimT B K (tAnd t u) (aAnd a b) := by
  intro σ s F C R H Q P hs hS h k
  refine ha σ s F C R H _ _ hs hS h fun c F1 C1 H1 e1 S1 h1 => ?_
  cases c with
  | true => exact hb σ s F1 C1 R H1 Q P (hs.mono e1) S1 h1 fun c F2 C2 H2 e2 S2 h2 => k c F2 C2 H2 (e1.trans e2) S2 h2
  | false => exact k false F1 C1 H1 e1 S1 h1
theorem sim_or {t u : TT} {a b : AT'} (ha : SimT B K t a) (hb : SimT B K u b) : SimT B K (tOr t u) (aOr a b) := by
  intro σ s F C R H Q P hs hS h k
  refine ha σ s F C R H _ _ hs hS h fun c F1 C1 H1 e1 S1 h1 => ?_
  cases c with
  | false => exact hb σ s F1 C1 R H1 Q P (hs.mono e1) S1 h1 fun c F2 C2 H2 e2 S2 h2 => k c F2 C2 H2 (e1.trans e2) S2 h2
  | true => exact k true F1 C1 H1 e1 S1 h1
theorem sim_not {t : TT} {a : AT'} (ha : SimT B K t a) : SimT B K (tNot t) (aNot a) := by
  intro σ s F C R H Q P hs hS h k
  exact ha σ s F C R H _ _ hs hS h fun c F1 C1 H1 e1 S1 h1 => k (!c) F1 C1 H1 e1 S1 h1
section
variable {a b : Expr} {t u : TT} {ta tb : TE} {xa xb : AT'} {aa ab : AE'} {rest : List Expr}
theorem aw_and1 (h : AT B X a t xa) : AW B X (.BoolOp .And [a] pos) t xa := ⟨pw_and1 h.pt, h.sim⟩
theorem aw_or1 (h : AT B X a t xa) : AW B X (.BoolOp .Or [a] pos) t xa := ⟨pw_or1 h.pt, h.sim⟩
theorem aw_and (h : AT B X a t xa) (g : AW B X (.BoolOp .And (b :: rest) pos) u xb) : AW B X (.BoolOp .And (a :: b :: rest) pos) (tAnd t u) (aAnd xa xb) := ⟨pw_and h.pt g.pw, sim_and h.sim g.sim⟩
theorem aw_or (h : AT B X a t xa) (g : AW B X (.BoolOp .Or (b :: rest) pos) u xb) : AW B X (.BoolOp .Or (a :: b :: rest) pos) (tOr t u) (aOr xa xb) := ⟨pw_or h.pt g.pw, sim_or h.sim g.sim⟩
theorem aw_t (h : AW B X a t xa) : AT B X a t xa := ⟨h.pw.pt, h.sim⟩
theorem at_not (h : AT B X a t xa) : AT B X (.UnaryOp .Not a pos) (tNot t) (aNot xa) := ⟨pt_not h.pt, sim_not h.sim⟩
/-- as values -/
def aAndV (a b : AE') : AE' := fun s C P => a s C fun x C1 => match truth C1 x with | some true => b s C1 P | some false => P x C1 | none => False
def aOrV (a b : AE') : AE' := fun s C P => a s C fun x C1 => match truth C1 x with | some true => P x C1 | some false => b s C1 P | none => False
def aNotV (a : AE') : AE' := fun s C P => a s C fun x C1 => match truth C1 x with | some b => P (.bl (!b)) C1 | none => False
theorem sim_andV (ha : SimE B K ta aa) (hb : SimE B K tb ab) : SimE B K (tAndT K ta tb) (aAndV aa ab) := by
  intro σ s F C R H Q P hs hS h k
  refine ha σ s F C R H _ _ hs hS h fun x v F1 C1 H1 e1 S1 r1 h1 => ?_
  split at h1
  · rename_i q
    refine ⟨true, truth_ok S1 r1 q, ?_⟩
    rw [if_pos rfl]
    exact hb σ s F1 C1 R H1 Q P (hs.mono e1) S1 h1 fun d u F2 C2 H2 e2 S2 r2 h2 => k d u F2 C2 H2 (e1.trans e2) S2 r2 h2
  · rename_i q
    refine ⟨false, truth_ok S1 r1 q, ?_⟩
    rw [if_neg Bool.false_ne_true]
    exact k x v F1 C1 H1 e1 S1 r1 h1
  · exact h1.elim
theorem sim_orV (ha : SimE B K ta aa) (hb : SimE B K tb ab) : SimE B K (tOrT K ta tb) (aOrV aa ab) := by
  intro σ s F C R H Q P hs hS h k
  refine ha σ s F C R H _ _ hs hS h fun x v F1 C1 H1 e1 S1 r1 h1 => ?_
  split at h1
  · rename_i q
    refine ⟨true, truth_ok S1 r1 q, ?_⟩
    rw [if_pos rfl]
    exact k x v F1 C1 H1 e1 S1 r1 h1
  · rename_i q
    refine ⟨false, truth_ok S1 r1 q, ?_⟩
    rw [if_neg Bool.false_ne_true]
    exact hb σ s F1 C1 R H1 Q P (hs.mono e1) S1 h1 fun d u F2 C2 H2 e2 S2 r2 h2 => k d u F2 C2 H2 (e1.trans e2) S2 r2 h2
  · exact h1.elim
theorem sim_notV (ha : SimE B K ta aa) : SimE B K (tNotT K ta) (aNotV aa) := by
  intro σ s F C R H Q P hs hS h k
  refine ha σ s F C R H _ _ hs hS h fun x v F1 C1 H1 e1 S1 r1 h1 => ?_
  split at h1
  · rename_i b q
    exact ⟨b, truth_ok S1 r1 q, k _ _ F1 C1 H1 e1 S1 (.bl _) h1⟩
  · exact h1.elim
theorem ae_one {op} (h : AE B X a ta aa) : AE B X (.BoolOp op [a] pos) ta aa := ⟨pe_one h.pe, h.sim⟩
theorem ae_and (h : AE B X a ta aa) (g : AE B X (.BoolOp .And (b :: rest) pos) tb ab) (hK : X.K = K := by rfl) : AE B X (.BoolOp .And (a :: b :: rest) pos) (tAndT K ta tb) (aAndV aa ab) := by
  subst hK
  exact ⟨pe_andT h.pe g.pe, sim_andV h.sim g.sim⟩
theorem ae_or (h : AE B X a ta aa) (g : AE B X (.BoolOp .Or (b :: rest) pos) tb ab) (hK : X.K = K := by rfl) : AE B X (.BoolOp .Or (a :: b :: rest) pos) (tOrT K ta tb) (aOrV aa ab) := by
  subst hK
  exact ⟨pe_orT h.pe g.pe, sim_orV h.sim g.sim⟩
theorem ae_not (h : AE B X a ta aa) (hK : X.K = K := by rfl) : AE B X (.UnaryOp .Not a pos) (tNotT K ta) (aNotV aa) := by
  subst hK
  exact ⟨pe_notT h.pe, sim_notV h.sim⟩
def aIf (t : AT') (a b : AE') : AE' := fun s C P => t s C fun c C1 => if c = true then a s C1 P else b s C1 P
def aNeg : D → AH → (D → AH → Prop) → Prop := fun x C P => match x with | .int i => P (.int (-i)) C | _ => False
theorem ae_neg (h : AE B X a ta aa) : AE B X (.UnaryOp .USub a pos) (tUn (rU fun i => .int (-i)) ta) (aUn aNeg aa) := ⟨pe_un un_neg h.pe, sim_un (by
  intro v d F C R H Q P hS r h0 k
  unfold aNeg at h0
  split at h0
  · cases r; exact ⟨_, rfl, k _ _ F C H (Ex.refl F) hS (.int _) h0⟩
  · exact h0.elim) h.sim⟩
end
def aNil : AA' := fun _ C P => P [] C
def aCons (a : AE') (r : AA') : AA' := fun s C P => a s C fun x C1 => r s C1 fun xs C2 => P (x :: xs) C2
theorem sim_nil : SimA B K 0 tNil aNil := fun σ s F C R H Q P hs hS h k => k [] [] F C H (Ex.refl F) hS .nil rfl h
theorem sim_cons {n : Nat} {ta : TE} {tr : TA} {a : AE'} {r : AA'} (ha : SimE B K ta a) (hr : SimA B K n tr r) : SimA B K (n + 1) (tCons ta tr) (aCons a r) := by
  intro σ s F C R H Q P hs hS h k
  refine ha σ s F C R H _ _ hs hS h fun x v F1 C1 H1 e1 S1 r1 h1 => ?_
  refine hr σ s F1 C1 R H1 _ _ (hs.mono e1) S1 h1 fun xs vs F2 C2 H2 e2 S2 r2 hl h2 => ?_
  exact k (x :: xs) (v :: vs) F2 C2 H2 (e1.trans e2) S2 (.cons (r1.mono e2) r2) (by rw [List.length_cons, hl]) h2
theorem aa_nil : AA B X [] 0 tNil aNil := ⟨pa_nil, sim_nil⟩
theorem aa_cons {e : Expr} {es : List Expr} {n : Nat} {te : TE} {t : TA} {a : AE'} {r : AA'} (h : AE B X e te a) (g : AA B X es n t r) (hs : starEach (e :: es) X.env = (false, eval e X.env) :: starEach es X.env := by rfl) : AA B X (e :: es) (n + 1) (tCons te t) (aCons a r) := ⟨pa_cons h.pe g.pa hs, sim_cons h.sim g.sim⟩
def aTup (a : AA') : AE' := fun s C P => a s C fun ds C1 => ds.length ≤ sizeLine ∧ P (.tup ds) C1
def aLst (a : AA') : AE' := fun s C P => a s C fun ds C1 => ds.length ≤ sizeLine ∧ P (.lst ds) C1
def aLstM (a : AA') : AE' := fun s C P => a s C fun ds C1 => ds.length ≤ sizeLine ∧ ∀ p, C1 p = none → P (.ce p) (put C1 p (.lst ds))
theorem ae_tup {es : List Expr} {n : Nat} {t : TA} {a : AA'} {x1} (h : AA B X es n t a) : AE B X (.Tuple es x1 pos) (tTupN t) (aTup a) := ⟨pe_tupN h.pa, by
  intro σ s F C R H Q P hs hS h0 k
  refine h.sim σ s F C R H _ _ hs hS h0 fun ds vs F1 C1 H1 e1 S1 r1 hl h1 => ⟨by rw [r1.length]; exact h1.1, fun p ob hob hp => ?_⟩
  have e := Ex.new (o := .frz ob (.tup vs)) (S1.freeF hp)
  exact k _ _ _ C1 _ (e1.trans e) (S1.newF hp _) (.tup (.frz hob upd_same) (r1.mono e)) h1.2⟩
theorem ae_lst {es : List Expr} {n : Nat} {t : TA} {a : AA'} (h : AA B X es n t a) : AE B X (.List es pos) (tLst t) (aLst a) := ⟨pe_lst h.pa, by
  intro σ s F C R H Q P hs hS h0 k
  refine h.sim σ s F C R H _ _ hs hS h0 fun ds vs F1 C1 H1 e1 S1 r1 hl h1 => ⟨by rw [r1.length]; exact h1.1, fun p hp => ?_⟩
  have e := Ex.new (o := .lst vs) (S1.freeF hp)
  exact k _ _ _ C1 _ (e1.trans e) (S1.newF hp _) (.lst upd_same (r1.mono e)) h1.2⟩
theorem ae_lstM {es : List Expr} {n : Nat} {t : TA} {a : AA'} (h : AA B X es n t a) : AE B X (.List es pos) (tLst t) (aLstM a) := ⟨pe_lst h.pa, by
  intro σ s F C R H Q P hs hS h0 k
  refine h.sim σ s F C R H _ _ hs hS h0 fun ds vs F1 C1 H1 e1 S1 r1 hl h1 => ⟨by rw [r1.length]; exact h1.1, fun p hp => ?_⟩
  exact k _ _ F1 _ _ e1 (S1.newC hp (.lst r1)) (.ce p) (h1.2 p (S1.freeC hp))⟩
end
end AL
namespace AL
open PySem PySem.Spec L2
variable {B : Bs}
section
variable {X : Cx} {pos : Pos} {K : PySem.W.Frag}
def asS (C : AH) : D → Option (List D)
  | .tup ds => some ds
  | d => asLr C d
def aIx : D → D → AH → (D → AH → Prop) → Prop := fun x y C P => match x, y with
  | .str z, .int i => z.length ≤ sizeLine ∧ (match atI z.cps.toList i with | some c => P (.str ⟨#[c]⟩) C | none => False)
  | x, .int i => (match asS C x with | some ds => (match atI ds i with | some d => P d C | none => False) | none => False)
  | _, _ => False
theorem RepL.atI {F : Hp} {vs : List V} {ds : List D} {i : Int} {d : D} (r : RepL K F vs ds) (h : atI ds i = some d) : ∃ v, L2.atI vs i = some v ∧ Rep K F v d := by
  unfold L2.atI at h ⊢
  rw [r.length]
  cases q : ixN ds.length i with
  | none => rw [q] at h; cases h
  | some j =>
    rw [q] at h
    obtain ⟨v, h1, h2⟩ := r.getD (show ds[j]? = some d from h)
    exact ⟨v, h1, h2⟩
theorem sim_ix : SimR2 B K (rIx K) aIx := by
  intro v w d e F C R H Q P hS r1 r2 h k
  unfold aIx at h
  split at h
  · cases r1; cases r2
    obtain ⟨hz, h⟩ := h
    split at h
    · rename_i c q
      exact .inr (.inr ⟨_, _, c, rfl, rfl, hz, q, k _ _ F C H (Ex.refl F) hS (.str _) h⟩)
    · exact h.elim
  · cases r2
    split at h
    · rename_i ds q
      split at h
      · rename_i d' q2
        cases d with
        | tup us =>
          cases q
          obtain ⟨a, xs, e1, h1, h2⟩ := asT_ok hS r1 rfl
          obtain ⟨v', h3, h4⟩ := h2.atI q2
          exact .inr (.inl ⟨a, xs, _, v', e1, rfl, SqT.of h1, h3, k _ _ F C H (Ex.refl F) hS h4 h⟩)
        | _ =>
          obtain ⟨a, xs, e1, h1, h2⟩ := asLr_ok hS r1 (show asLr C _ = some ds from q)
          obtain ⟨v', h3, h4⟩ := h2.atI q2
          exact .inl ⟨a, xs, _, v', e1, rfl, h1, h3, k _ _ F C H (Ex.refl F) hS h4 h⟩
      · exact h.elim
    · exact h.elim
  · exact h.elim
theorem ae_ix {a b : Expr} {ta tb : TE} {aa ab : AE'} (ha : AE B X a ta aa) (hb : AE B X b tb ab) (hs : PlainIx b := by exact fun _ _ => rfl) (hK : X.K = K := by rfl) : AE B X (.Subscript a b pos) (tOp (rIx K) ta tb) (aOp aIx aa ab) := by
  subst hK
  exact ⟨pe_ix ix_seq ha.pe hb.pe hs, sim_op sim_ix ha.sim hb.sim⟩
abbrev AO' := ASt → AH → (Option Int → AH → Prop) → Prop
def SimO (B : Bs) (K : PySem.W.Frag) (to : TO) (a : AO') : Prop := ∀ (σ : L2.St) (s : ASt) (F : Hp) (C : AH) (R H : Hp) (Q : Option Int → Hp → Prop) (P : Option Int → AH → Prop), Slo K F s σ → Sat B K F C R H → a s C P →
  (∀ o F' C' H', Ex F F' → Sat B K F' C' R H' → P o C' → Q o H') → to σ H Q
structure AO (B : Bs) (X : Cx) (e : Option Expr) (to : TO) (a : AO') : Prop where
  po : PO X e to
  sim : SimO B X.K to a
def aNoPart : AO' := fun _ C P => P none C
def aPart (a : AE') : AO' := fun s C P => a s C fun x C1 => match x with | .int i => P (some i) C1 | _ => False
theorem ao_none : AO B X none tNoPart aNoPart := ⟨po_none, fun σ s F C R H Q P hs hS h k => k none F C H (Ex.refl F) hS h⟩
theorem ao_some {e : Expr} {te : TE} {a : AE'} (h : AE B X e te a) : AO B X (some e) (tPart te) (aPart a) := ⟨po_some h.pe, by
  intro σ s F C R H Q P hs hS h0 k
  refine h.sim σ s F C R H _ _ hs hS h0 fun x v F1 C1 H1 e1 S1 r1 h1 => ?_
  split at h1
  · cases r1
    exact ⟨_, rfl, k _ F1 C1 H1 e1 S1 h1⟩
  · exact h1.elim⟩
def cutD (xs : List D) (lo hi : Option Int) : List D := (xs.drop (HT.sIx xs.length 0 lo)).take (HT.sIx xs.length xs.length hi - HT.sIx xs.length 0 lo)
theorem RepL.cut {F : Hp} {vs : List V} {ds : List D} (r : RepL K F vs ds) (lo hi : Option Int) : RepL K F (cutV vs lo hi) (cutD ds lo hi) := by
  unfold cutV cutD
  rw [r.length]
  exact (r.drop _).take _
def aSl (r : D → Option Int → Option Int → AH → (D → AH → Prop) → Prop) (a : AE') (l h : AO') : AE' := fun s C P => a s C fun x C1 => l s C1 fun i C2 => h s C2 fun j C3 => r x i j C3 P
def SimRS (B : Bs) (K : PySem.W.Frag) (r : V → Option Int → Option Int → Hp → VK → Prop) (a : D → Option Int → Option Int → AH → (D → AH → Prop) → Prop) : Prop := ∀ (v : V) (d : D) (lo hi : Option Int) (F : Hp) (C : AH) (R H : Hp) (Q : VK) (P : D → AH → Prop), Sat B K F C R H → Rep K F v d → a d lo hi C P →
  (∀ d v F' C' H', Ex F F' → Sat B K F' C' R H' → Rep K F' v d → P d C' → Q v H') → r v lo hi H Q
theorem sim_sl {r ar} {ta : TE} {tl th : TO} {a : AE'} {l h : AO'} (hr : SimRS B K r ar) (ha : SimE B K ta a) (hl : SimO B K tl l) (hh : SimO B K th h) : SimE B K (tSl r ta tl th) (aSl ar a l h) := by
  intro σ s F C R H Q P hs hS h0 k
  refine ha σ s F C R H _ _ hs hS h0 fun x v F1 C1 H1 e1 S1 r1 h1 => ?_
  refine hl σ s F1 C1 R H1 _ _ (hs.mono e1) S1 h1 fun i F2 C2 H2 e2 S2 h2 => ?_
  refine hh σ s F2 C2 R H2 _ _ (hs.mono (e1.trans e2)) S2 h2 fun j F3 C3 H3 e3 S3 h3 => ?_
  exact hr v x i j F3 C3 R H3 Q P S3 (r1.mono (e2.trans e3)) h3 fun d u F4 C4 H4 e4 S4 r4 h4 => k d u F4 C4 H4 (((e1.trans e2).trans e3).trans e4) S4 r4 h4
def aCut : D → Option Int → Option Int → AH → (D → AH → Prop) → Prop := fun x lo hi C P => match x with
  | .str z => z.length ≤ sizeLine ∧ P (.str (cutS z lo hi)) C
  | .tup ds => P (.tup (cutD ds lo hi)) C
  | x => (match asLr C x with | some ds => P (.lst (cutD ds lo hi)) C | none => False)
def rCutA (K : PySem.W.Frag) : V → Option Int → Option Int → Hp → VK → Prop := fun x lo hi H Q => (rSlS x lo hi H Q ∨ rSlTN K x lo hi H Q) ∨ rSlL K x lo hi H Q
theorem cutD_all {ds : List D} {lo hi : Option Int} (h : HT.sIx ds.length 0 lo = 0 ∧ HT.sIx ds.length ds.length hi = ds.length) : cutD ds lo hi = ds := by
  unfold cutD
  rw [h.1, h.2, List.drop_zero, Nat.sub_zero, List.take_length]
theorem sim_cut : SimRS B K (rCutA K) aCut := by
  intro v d lo hi F C R H Q P hS r1 h k
  unfold aCut at h
  split at h
  · cases r1
    exact .inl (.inl ⟨_, rfl, h.1, k _ _ F C H (Ex.refl F) hS (.str _) h.2⟩)
  · cases r1 with
    | @tup a xs us h1 q1 =>
      refine .inl (.inr ⟨a, xs, rfl, h1.sq hS.ex, fun z => ?_, fun _ p ob hob hp => ?_⟩)
      · rw [q1.length] at z
        rw [cutD_all z] at h
        exact k _ _ F C H (Ex.refl F) hS (.tup h1 q1) h
      · have e := Ex.new (o := .frz ob (.tup (cutV xs lo hi))) (hS.freeF hp)
        exact k _ _ _ C _ e (hS.newF hp _) (.tup (.frz hob upd_same) ((q1.cut lo hi).mono e)) h
  · split at h
    · rename_i ds q
      obtain ⟨a, xs, e1, h1, h2⟩ := asLr_ok hS r1 q
      refine .inr ⟨a, xs, e1, h1, fun p hp => ?_⟩
      have e := Ex.new (o := .lst (cutV xs lo hi)) (hS.freeF hp)
      exact k _ _ _ C _ e (hS.newF hp _) (.lst upd_same ((h2.cut lo hi).mono e)) h
    · exact h.elim
theorem ae_cut {e : Expr} {lo hi : Option Expr} {te : TE} {tl th : TO} {a : AE'} {l h : AO'} {p2 : Pos} (he : AE B X e te a) (hl : AO B X lo tl l) (hh : AO B X hi th h) (hK : X.K = K := by rfl) : AE B X (.Subscript e (.Slice lo hi none p2) pos) (tSl (rCutA K) te tl th) (aSl aCut a l h) := by
  subst hK
  exact ⟨pe_slice ((sl_str.or sl_tupN).or sl_list) he.pe hl.po hh.po, sim_sl sim_cut he.sim hl.sim hh.sim⟩
/-- xs[::-1], a list -/
def aRev : D → AH → (D → AH → Prop) → Prop := fun x C P => match asLr C x with | some ds => P (.lst ds.reverse) C | none => False
theorem ae_revL {e : Expr} {te : TE} {a : AE'} {k : Nat} {p1 p2 p3 : Pos} (he : AE B X e te a) (hK : X.K = K := by rfl) : AE B X (.Subscript e (.Slice none none (some (.UnaryOp .USub (.Constant (.int 1) k p1) p2)) p3) pos) (tRevL K te) (aUn aRev a) := by
  subst hK
  exact ⟨pe_revL he.pe, by
  intro σ s F C R H Q P hs hS h0 k
  refine he.sim σ s F C R H _ _ hs hS h0 fun x v F1 C1 H1 e1 S1 r1 h1 => ?_
  unfold aRev at h1
  split at h1
  · rename_i ds q
    obtain ⟨a, xs, e2, h2, h3⟩ := asLr_ok S1 r1 q
    refine ⟨a, xs, e2, h2, fun p hp => ?_⟩
    have e := Ex.new (o := .lst xs.reverse) (S1.freeF hp)
    exact k _ _ _ C1 _ (e1.trans e) (S1.newF hp _) (.lst upd_same (h3.reverse.mono e)) h1
  · exact h1.elim⟩
structure ACa (B : Bs) (X : Cx) (f : Value) (r : List V → Hp → VK → Prop) (a : ASp) : Prop where
  op : CallR X f r
  sim : SimRL B X.K r a
def aCall (asp : ASp) (a : AA') : AE' := fun s C P => a s C fun ds C1 => asp ds C1 P
theorem sim_callB {n : Nat} {r : List V → Hp → VK → Prop} {ar : ASp} {ta : TA} {a : AA'} (hr : SimRL B K r ar) (ha : SimA B K n ta a) : SimE B K (tCB r ta) (aCall ar a) := by
  intro σ s F C R H Q P hs hS h k
  refine ha σ s F C R H _ _ hs hS h fun ds vs F1 C1 H1 e1 S1 r1 hl h1 => ?_
  exact hr vs ds F1 C1 R H1 Q P S1 r1 h1 fun d u F3 C3 H3 e3 S3 r3 h3 => k d u F3 C3 H3 (e1.trans e3) S3 r3 h3
section
variable {e : Expr} {es : List Expr} {n : Nat} {t : TA} {a : AA'} {r : List V → Hp → VK → Prop} {ar : ASp} {x : Str} {p : Pos} {id T : String}
theorem ae_callB (hc : ACa B X (.builtin id) r ar) (hm : X.mg x = none) (hv : bootBuiltins x = some (.builtin id)) (ha : AA B X (e :: es) n t a) (hg : Gl X x := by rfl) (hn : x ≠ "__name__" := by decide) (hdb : (x == ("__debug__" : Str)) = false := by decide)
    (he : starEach (e :: es) X.env = (false, eval e X.env) :: starEach es X.env := by rfl) (hpl : (backTo pos (starEach es X.env)).any (·.1) = false := by rfl) : AE B X (.Call (.Name x p) (e :: es) [] pos) (tCB r t) (aCall ar a) :=
  ⟨pe_callB hc.op hg hm hv ha.pa hn hdb he hpl, sim_callB hc.sim ha.sim⟩
theorem ae_callT (hc : ACa B X (.type T) r ar) (hm : X.mg x = none) (hv : bootBuiltins x = some (.type T)) (ha : AA B X (e :: es) n t a) (hg : Gl X x := by rfl) (hn : x ≠ "__name__" := by decide) (hdb : (x == ("__debug__" : Str)) = false := by decide)
    (he : starEach (e :: es) X.env = (false, eval e X.env) :: starEach es X.env := by rfl) (hpl : (backTo pos (starEach es X.env)).any (·.1) = false := by rfl) : AE B X (.Call (.Name x p) (e :: es) [] pos) (tCB r t) (aCall ar a) :=
  ⟨pe_callTy hc.op hg hm hv ha.pa hn hdb he hpl, sim_callB hc.sim ha.sim⟩
end
theorem asS_ok {F : Hp} {C : AH} {R H : Hp} {v : V} {d : D} {ds : List D} (hS : Sat B K F C R H) (r : Rep K F v d) (h : asS C d = some ds) : ∃ a xs, v = .ref a ∧ (SqL K H a xs ∨ SqT K H a xs) ∧ RepL K F xs ds := by
  cases d with
  | tup ws =>
    cases h
    obtain ⟨a, xs, e1, h1, h2⟩ := asT_ok hS r rfl
    exact ⟨a, xs, e1, .inr (SqT.of h1), h2⟩
  | _ =>
    obtain ⟨a, xs, e1, h1, h2⟩ := asLr_ok hS r (show asLr C _ = some ds from h)
    exact ⟨a, xs, e1, .inl h1, h2⟩
def aLen : ASp := fun ds C P => match ds with
  | [.str z] => z.length ≤ sizeLine ∧ P (.int z.length) C
  | [.ce q] => (match C q with | some (.lst us) => P (.int us.length) C | some (.dk us) => P (.int us.length) C | _ => False)
  | [.dk kvs] => P (.int kvs.length) C
  | [d] => (match asS C d with | some us => P (.int us.length) C | none => False)
  | _ => False
def rLenA (K : PySem.W.Frag) : List V → Hp → VK → Prop := fun xs H Q => (∃ x n, xs = [x] ∧ LenV K x H n ∧ Q (.int n) H) ∨ (∃ a kvs, xs = [V.ref a] ∧ H a = some (.dK kvs) ∧ Q (.int kvs.length) H)
theorem RepK.length {F : Hp} : ∀ {vs : List (Key × V)} {ds : List (Key × D)}, RepK K F vs ds → vs.length = ds.length
  | _, _, .nil => rfl
  | _, _, .cons _ t => by rw [List.length_cons, List.length_cons, RepK.length t]
theorem simLen : SimRL B K (rLenA K) aLen := by
  intro vs ds F C R H Q P hS r h k
  unfold aLen at h
  split at h
  · cases r with | cons r1 r2 => cases r2; cases r1; exact .inl ⟨_, _, rfl, ⟨h.1, rfl⟩, k _ _ F C H (Ex.refl F) hS (.int _) h.2⟩
  · cases r with
    | cons r1 r2 =>
      cases r2; cases r1
      split at h
      · rename_i e
        obtain ⟨_, o, h1, h2⟩ := hS.cell _ _ e
        cases h2 with
        | lst q => exact .inl ⟨_, _, rfl, .inl ⟨_, SqL.of h1, q.length.symm⟩, k _ _ F C H (Ex.refl F) hS (.int _) h⟩
      · rename_i e
        obtain ⟨_, o, h1, h2⟩ := hS.cell _ _ e
        cases h2 with
        | dk q => exact .inr ⟨_, _, rfl, h1, by rw [q.length]; exact k _ _ F C H (Ex.refl F) hS (.int _) h⟩
      · exact h.elim
  · cases r with | cons r1 r2 => cases r2; cases r1 with | dk e q => exact .inr ⟨_, _, rfl, hS.ex _ _ e, by rw [q.length]; exact k _ _ F C H (Ex.refl F) hS (.int _) h⟩
  · cases r with
    | cons r1 r2 =>
      cases r2
      split at h
      · rename_i us q
        obtain ⟨a, xs, e1, h1, h2⟩ := asS_ok hS r1 q
        subst e1
        rcases h1 with h1 | h1
        · exact .inl ⟨.ref a, _, rfl, .inl ⟨xs, h1, h2.length.symm⟩, k _ _ F C H (Ex.refl F) hS (.int _) h⟩
        · exact .inl ⟨.ref a, _, rfl, .inr ⟨xs, h1, h2.length.symm⟩, k _ _ F C H (Ex.refl F) hS (.int _) h⟩
      · exact h.elim
  · exact h.elim
theorem ac_len (hK : X.K = K := by rfl) : ACa B X (.builtin "len") (rLenA K) aLen := by
  subst hK
  exact ⟨call_len.or call_lenD, simLen⟩
def aAbs : ASp := fun ds C P => match ds with | [.int i] => P (.int (if i < 0 then -i else i)) C | _ => False
theorem ac_abs : ACa B X (.builtin "abs") (fun xs H Q => ∃ i, xs = [.int i] ∧ Q (.int (if i < 0 then -i else i)) H) aAbs := ⟨call_abs, by
  intro vs ds F C R H Q P hS r h k
  unfold aAbs at h
  split at h
  · cases r with | cons r1 r2 => cases r2; cases r1; exact ⟨_, rfl, k _ _ F C H (Ex.refl F) hS (.int _) h⟩
  · exact h.elim⟩
def aMax2 : ASp := fun ds C P => match ds with | [.int i, .int j] => P (.int (if j > i then j else i)) C | _ => False
def aMin2 : ASp := fun ds C P => match ds with | [.int i, .int j] => P (.int (if j < i then j else i)) C | _ => False
theorem ac_max2 (hc : X.calm = true := by rfl) : ACa B X (.builtin "max") (fun xs H Q => ∃ i j, xs = [.int i, .int j] ∧ Q (.int (if j > i then j else i)) H) aMax2 := ⟨call_max2 hc, by
  intro vs ds F C R H Q P hS r h k
  unfold aMax2 at h
  split at h
  · cases r with | cons r1 r2 => cases r2 with | cons r2 r3 => cases r3; cases r1; cases r2; exact ⟨_, _, rfl, k _ _ F C H (Ex.refl F) hS (.int _) h⟩
  · exact h.elim⟩
def aInt : ASp := fun ds C P => match ds with | [.int i] => P (.int i) C | [.bl b] => P (.int (if b then 1 else 0)) C | _ => False
theorem ac_int : ACa B X (.type "int") (fun xs H Q => (∃ i, xs = [.int i] ∧ Q (.int i) H) ∨ ∃ k, xs = [.bl k] ∧ Q (.int (if k then 1 else 0)) H) aInt := ⟨call_int1, by
  intro vs ds F C R H Q P hS r h k
  unfold aInt at h
  split at h
  · cases r with | cons r1 r2 => cases r2; cases r1; exact .inl ⟨_, rfl, k _ _ F C H (Ex.refl F) hS (.int _) h⟩
  · cases r with | cons r1 r2 => cases r2; cases r1; exact .inr ⟨_, rfl, k _ _ F C H (Ex.refl F) hS (.int _) h⟩
  · exact h.elim⟩
/-- list(xs), tuple(xs) of a list, a tuple -/
def aListOf : ASp := fun ds C P => match ds with | [d] => (match asS C d with | some us => P (.lst us) C | none => False) | _ => False
def aListM : ASp := fun ds C P => match ds with | [d] => (match asS C d with | some us => ∀ p, C p = none → P (.ce p) (put C p (.lst us)) | none => False) | _ => False
def aTupleOf : ASp := fun ds C P => match ds with | [.tup us] => P (.tup us) C | [d] => (match asS C d with | some us => P (.tup us) C | none => False) | _ => False
theorem ac_list (hK : X.K = K := by rfl) : ACa B X (.type "list") (fun xs H Q => ∃ p ys, xs = [.ref p] ∧ (SqL K H p ys ∨ SqT K H p ys) ∧ ∀ l, H l = none → Q (.ref l) (upd H l (.lst ys))) aListOf := by
  subst hK
  exact ⟨call_list_of, by
  intro vs ds F C R H Q P hS r h k
  unfold aListOf at h
  split at h
  · cases r with
    | cons r1 r2 =>
      cases r2
      split at h
      · rename_i us q
        obtain ⟨a, xs, e1, h1, h2⟩ := asS_ok hS r1 q
        refine ⟨a, xs, by rw [e1], h1, fun p hp => ?_⟩
        have e := Ex.new (o := .lst xs) (hS.freeF hp)
        exact k _ _ _ C _ e (hS.newF hp _) (.lst upd_same (h2.mono e)) h
      · exact h.elim
  · exact h.elim⟩
theorem ac_listM (hK : X.K = K := by rfl) : ACa B X (.type "list") (fun xs H Q => ∃ p ys, xs = [.ref p] ∧ (SqL K H p ys ∨ SqT K H p ys) ∧ ∀ l, H l = none → Q (.ref l) (upd H l (.lst ys))) aListM := by
  subst hK
  exact ⟨call_list_of, by
  intro vs ds F C R H Q P hS r h k
  unfold aListM at h
  split at h
  · cases r with
    | cons r1 r2 =>
      cases r2
      split at h
      · rename_i us q
        obtain ⟨a, xs, e1, h1, h2⟩ := asS_ok hS r1 q
        refine ⟨a, xs, by rw [e1], h1, fun p hp => ?_⟩
        exact k _ _ _ _ _ (Ex.refl F) (hS.newC hp (.lst h2)) (.ce p) (h p (hS.freeC hp))
      · exact h.elim
  · exact h.elim⟩
theorem ac_tuple (hK : X.K = K := by rfl) : ACa B X (.type "tuple") (rTupOfN K) aTupleOf := by
  subst hK
  exact ⟨call_tuple_ofN, by
  intro vs ds F C R H Q P hS r h k
  unfold aTupleOf at h
  split at h
  · cases r with
    | cons r1 r2 =>
      cases r2
      cases r1 with
      | tup h1 h2 => exact ⟨_, _, rfl, .inr ⟨h1.sq hS.ex, k _ _ F C H (Ex.refl F) hS (.tup h1 h2) h⟩⟩
  · rename_i d hd
    cases r with
    | cons r1 r2 =>
      cases r2
      split at h
      · rename_i us q
        have q' : asLr C d = some us := by
          cases d <;> first | exact q | exact absurd rfl (hd _)
        obtain ⟨a, xs, e1, h1, h2⟩ := asLr_ok hS r1 q'
        refine ⟨a, xs, by rw [e1], .inl ⟨h1, fun p ob hob hp => ?_⟩⟩
        have e := Ex.new (o := .frz ob (.tup xs)) (hS.freeF hp)
        exact k _ _ _ C _ e (hS.newF hp _) (.tup (.frz hob upd_same) (h2.mono e)) h
      · exact h.elim
  · exact h.elim⟩
/-- all, any, sum of a list -/
def blsD : List D → Option (List Bool)
  | [] => some []
  | .bl b :: ds => (blsD ds).map (b :: ·)
  | _ => none
def intsD : List D → Option (List Int)
  | [] => some []
  | .int b :: ds => (intsD ds).map (b :: ·)
  | _ => none
def strsD : List D → Option (List Str)
  | [] => some []
  | .str b :: ds => (strsD ds).map (b :: ·)
  | _ => none
theorem bls_ok : ∀ {ds : List D} {bs : List Bool}, blsD ds = some bs → ds = bs.map .bl
  | [], _, h => by cases h; rfl
  | .bl b :: ds, bs, h => by
    simp only [blsD] at h
    cases q : blsD ds with
    | none => rw [q] at h; cases h
    | some cs => rw [q] at h; cases h; rw [bls_ok q]; rfl
  | .non :: _, _, h => by cases h
  | .int _ :: _, _, h => by cases h
  | .str _ :: _, _, h => by cases h
  | .lst _ :: _, _, h => by cases h
  | .tup _ :: _, _, h => by cases h
  | .dk _ :: _, _, h => by cases h
  | .scr _ :: _, _, h => by cases h
  | .ce _ :: _, _, h => by cases h
theorem ints_ok : ∀ {ds : List D} {bs : List Int}, intsD ds = some bs → ds = bs.map .int
  | [], _, h => by cases h; rfl
  | .int b :: ds, bs, h => by
    simp only [intsD] at h
    cases q : intsD ds with
    | none => rw [q] at h; cases h
    | some cs => rw [q] at h; cases h; rw [ints_ok q]; rfl
  | .non :: _, _, h => by cases h
  | .bl _ :: _, _, h => by cases h
  | .str _ :: _, _, h => by cases h
  | .lst _ :: _, _, h => by cases h
  | .tup _ :: _, _, h => by cases h
  | .dk _ :: _, _, h => by cases h
  | .scr _ :: _, _, h => by cases h
  | .ce _ :: _, _, h => by cases h
@[simp] theorem bls_map (bs : List Bool) : blsD (bs.map D.bl) = some bs := by
  induction bs with
  | nil => rfl
  | cons b bs ih => simp [blsD, ih]
@[simp] theorem ints_map (bs : List Int) : intsD (bs.map D.int) = some bs := by
  induction bs with
  | nil => rfl
  | cons b bs ih => simp [intsD, ih]
@[simp] theorem strs_map (bs : List Str) : strsD (bs.map D.str) = some bs := by
  induction bs with
  | nil => rfl
  | cons b bs ih => simp [strsD, ih]
def aAll : ASp := fun ds C P => match ds with | [d] => (match (asLr C d).bind blsD with | some bs => P (.bl (bs.all id)) C | none => False) | _ => False
def aSum : ASp := fun ds C P => match ds with | [d] => (match (asLr C d).bind intsD with | some bs => P (.int bs.sum) C | none => False) | _ => False
theorem ac_all (hc : X.calm = true := by rfl) (hK : X.K = K := by rfl) : ACa B X (.builtin "all") (rAll K) aAll := by
  subst hK
  exact ⟨cr_all hc, by
  intro vs ds F C R H Q P hS r h k
  unfold aAll at h
  split at h
  · cases r with
    | cons r1 r2 =>
      cases r2
      split at h
      · rename_i bs q
        obtain ⟨us, q1, q2⟩ := Option.bind_eq_some_iff.mp q
        obtain ⟨a, xs, e1, h1, h2⟩ := asLr_ok hS r1 q1
        rw [bls_ok q2] at h2
        have e3 := h2.ofBls
        subst e3
        exact ⟨a, bs, by rw [e1], h1, k _ _ F C H (Ex.refl F) hS (.bl _) h⟩
      · exact h.elim
  · exact h.elim⟩
theorem ac_sum (hc : X.calm = true := by rfl) (hK : X.K = K := by rfl) : ACa B X (.builtin "sum") (rSum K) aSum := by
  subst hK
  exact ⟨cr_sum hc, by
  intro vs ds F C R H Q P hS r h k
  unfold aSum at h
  split at h
  · cases r with
    | cons r1 r2 =>
      cases r2
      split at h
      · rename_i bs q
        obtain ⟨us, q1, q2⟩ := Option.bind_eq_some_iff.mp q
        obtain ⟨a, xs, e1, h1, h2⟩ := asLr_ok hS r1 q1
        rw [ints_ok q2] at h2
        have e3 := h2.ofInts
        subst e3
        exact ⟨a, bs, by rw [e1], h1, k _ _ F C H (Ex.refl F) hS (.int _) h⟩
      · exact h.elim
  · exact h.elim⟩
def kindOf (C : AH) : D → Option String
  | .non => some "NoneType" | .bl _ => some "bool" | .int _ => some "int" | .str _ => some "str" | .lst _ => some "list" | .tup _ => some "tuple" | .dk _ => some "dict" | .scr _ => some "list"
  | .ce p => match C p with | some (.lst _) => some "list" | some (.dk _) => some "dict" | _ => none
theorem kindOf_ok {F : Hp} {C : AH} {R H : Hp} {v : V} {d : D} {t : String} (hS : Sat B K F C R H) (r : Rep K F v d) (h : kindOf C d = some t) : TyX K H v (.type t) := by
  cases r with
  | non => cases h; exact .base .non
  | bl b => cases h; exact .base (.bl b)
  | int i => cases h; exact .base (.int i)
  | str x => cases h; exact .base (.str x)
  | lst e q => cases h; exact .base (.lst (hS.ex _ _ e))
  | tup e q =>
    cases h
    rcases e.1 with e | ⟨o, e⟩
    · exact .base (.tup (hS.ex _ _ e))
    · exact .fTuple (hS.ex _ _ e)
  | dk e q => cases h; exact .base (.dK (hS.ex _ _ e))
  | scr e =>
    cases h
    rcases hS.ex.l e with (e | ⟨o, e⟩) | ⟨o, its, n, e, c, _⟩
    · exact .base (.lst e)
    · exact .base (.frz e)
    · exact .kList e c
  | ce p =>
    simp only [kindOf] at h
    split at h
    · rename_i e; cases h
      obtain ⟨_, o, h1, h2⟩ := hS.cell p _ e
      cases h2; exact .base (.lst h1)
    · rename_i e; cases h
      obtain ⟨_, o, h1, h2⟩ := hS.cell p _ e
      cases h2; exact .base (.dK h1)
    · cases h
def isT (T t : String) : Bool := t == T || (t == "bool" && T == "int")
theorem isT_ok : ∀ t ∈ ["NoneType", "bool", "int", "str", "list", "tuple", "dict"], ∀ T ∈ ["bool", "int", "str", "list", "tuple", "dict"], kitB t T = some (isT T t) := by decide +kernel
theorem kindOf_mem {C : AH} {d : D} {t : String} (h : kindOf C d = some t) : t ∈ ["NoneType", "bool", "int", "str", "list", "tuple", "dict"] := by
  unfold kindOf at h
  split at h <;> first | (cases h; decide) | (split at h <;> first | (cases h; decide) | cases h)
def aIsi (T : String) (a : AE') : AE' := fun s C P => a s C fun x C1 => match kindOf C1 x with | some t => P (.bl (isT T t)) C1 | none => False
theorem ae_isi {e : Expr} {te : TE} {a : AE'} {T : Str} {Tn : String} {p p2 : Pos} (h : AE B X e te a) (hm : X.mg "isinstance" = none) (hmT : X.mg T = none) (hv : bootBuiltins T = some (.type Tn)) (hT : Tn ∈ ["bool", "int", "str", "list", "tuple", "dict"] := by decide)
    (hg : Gl X "isinstance" := by rfl) (hgT : Gl X T := by rfl) (hb : bootBuiltins "isinstance" = some (.builtin "isinstance") := by decide +kernel) (hnT : T ≠ "__name__" := by decide) (hdT : (T == ("__debug__" : Str)) = false := by decide)
    (he : starEach [e, .Name T p2] X.env = (false, eval e X.env) :: starEach [.Name T p2] X.env := by rfl) (hpl : (backTo pos (starEach [.Name T p2] X.env)).any (·.1) = false := by rfl) (h2 : starEach [.Name T p2] X.env = (false, eval (.Name T p2) X.env) :: starEach [] X.env := by rfl) (hK : X.K = K := by rfl) :
    AE B X (.Call (.Name "isinstance" p) [e, .Name T p2] [] pos) (tCB (rIsi K) (tCons te (tCons (tC (.ty Tn)) tNil))) (aIsi Tn a) := by
  subst hK
  exact ⟨pe_callB call_isi hg hm hb (pa_cons h.pe (pa_cons (pe_bltn hgT hmT hv rfl hnT hdT) pa_nil h2) he) (by decide) (by decide) he hpl, by
    intro σ s F C R H Q P hs hS h0 k
    refine h.sim σ s F C R H _ _ hs hS h0 fun x v F1 C1 H1 e1 S1 r1 h1 => ?_
    split at h1
    · rename_i t q
      exact ⟨v, .ty Tn, .type t, .type Tn, isT Tn t, rfl, .ty Tn, kindOf_ok S1 r1 q, kit_ty (isT_ok t (kindOf_mem q) Tn hT), k _ _ F1 C1 H1 e1 S1 (.bl _) h1⟩
    · exact h1.elim⟩
end
end AL
namespace AL
open PySem PySem.Spec L2
variable {B : Bs}
open PyProof.Rows (envOfC)
section
variable {X : Cx} {pos : Pos} {K : PySem.W.Frag}
def spOf (w : Gd) (K : PySem.W.Frag) (n : Nat) (asp : ASp) : Sp := fun vs H Q _ => vs.length = n ∧ ∃ F C R ds P, Sat (Bs.nil w) K F C R H ∧ RepL K F vs ds ∧ asp ds C P ∧ ∀ d v F' C' H', Ex F F' → Sat (Bs.nil w) K F' C' R H' → Rep K F' v d → P d C' → Q v H'
/-- a def's promise, where no guard stands (so that repr may be asked) -/
structure FnG (P : Program) (w : World) (K : PySem.W.Frag) (mg : Str → Option Value) (base : Heap) (k : Nat) (f : Addr) (fd : FuncData) (ps : List Str) (sp : Sp) : Prop where
  len : ∀ vs H Q E, sp vs H Q E → vs.length = ps.length
  run : ∀ (A : Around) (out : List Env) (s : Shared) (H : Hp) (args : Args) (us : List Value) (vs : List V) (Q : VK) (E : XK), Room k A → A.guards = some [] → Env0 P w K mg base A out s H →
    BindsTo s fd args (ps.zip us) → Vals vs us → sp vs H Q E → codeAny (model P w) A (.call (.ref f) args) (CR (L2.CX P w) out P w H s Q E) s
theorem FnG.imp {P : Program} {w : World} {K : PySem.W.Frag} {mg : Str → Option Value} {base : Heap} {k : Nat} {f : Addr} {fd : FuncData} {ps : List Str} {sp sp' : Sp} (G : FnG P w K mg base k f fd ps sp) (h : ∀ vs H Q E, sp' vs H Q E → sp vs H Q E) : FnG P w K mg base k f fd ps sp' :=
  ⟨fun vs H Q E q => G.len vs H Q E (h _ _ _ _ q), fun A out s H args us vs Q E hr hg he hb hv hs => G.run A out s H args us vs Q E hr hg he hb hv (h _ _ _ _ hs)⟩
/-- by its body -/
theorem fnG_of {P : Program} {w : World} {K : PySem.W.Frag} {mg : Str → Option Value} {base : Heap} {x qual : Str} {st : Stmt} {f : Addr} {fd : FuncData} {N ps : List Str} {k : Nat} {sp : Sp} (F : L2.Fun K x qual st f fd) (S : FnScope N ps (defScope st)) (len : ∀ vs H Q E, sp vs H Q E → vs.length = ps.length)
    (hbody : ∀ (cdv : Value) (A : Around) (out : List Env) (s : Shared) (H : Hp) (vs : List V) (Q : VK) (E : XK), Room k (A.deeper (envOfC qual (defScope st) s.heap.objs.size f cdv)) → A.guards = some [] → sp vs H Q E →
      ∃ t, PSs (cxOf (L2.CX P w) P w K mg base N qual (defScope st) f cdv A out s H E) (defBody st) t ∧ t { nx := fun _ H1 => Q .non H1, rt := Q } (start N vs) H) : FnG P w K mg base (k + 1) f fd ps sp := by
  obtain ⟨oc, od, kV, doc, pm, an, cdv, ct, osl, rfl, lk, hcd⟩ := F.ex
  refine ⟨len, fun A out s H args us vs Q E hr hg e0 hb rv hsp => ?_⟩
  have kin := e0.mod.kin.keeps fun b o e => (e0.bs b o e).1
  have nol := e0.mod.nolimit.keeps fun b o e => (e0.bs b o e).1
  have knd : ∀ z ∈ ps.zip us, (defScope st).names.lookup z.1 = some .local ∨ ((defScope st).names.lookup z.1 = some .cell ∧ ((cellsFrom (s.heap.objs.size + 1) (defScope st).names []).lookup z.1).isSome = true) := by
    intro z hz
    obtain ⟨n, v⟩ := z
    exact (S.par n (List.of_mem_zip hz).1).elim .inl fun q => .inr ⟨q, PySem.W.cellsFrom_some _ _ _ (.inl q)⟩
  refine codeAny_call_function hr.depth (kin _ _ lk) rfl S.co S.gen rfl (PySem.W.codeRec_of kin hcd) (hb _ _ _ _ (wpAny_newFunctionEnv_cells S.kind knd fun env he s1 made => ?_))
  subst he
  refine ⟨nol.keeps made.toInCall.keep, codeAny_func ?_⟩
  obtain ⟨t, ht, q0⟩ := hbody cdv A out s H vs Q E (hr.deeper _) hg hsp
  refine wpAny_mono (ht.run [] s1 (start N vs) H _ (inv_start S hr.hd e0 (len _ _ _ _ hsp) rv made) q0) (fun fl s2 z => ?_) fun _ _ z => z
  have done : ∀ {σ2 : L2.St} {H2 : Hp} {v : V} {u : Value}, Inv (cxOf (L2.CX P w) P w K mg base N qual (defScope st) f cdv A out s H E) [] σ2 H2 s2 → RelV v u → Q v H2 → CE out P w H s Q u s2 := fun J r q => ⟨_, _, J.os, J.bare, J.base, J.hok, r, q⟩
  cases fl with
  | next => obtain ⟨σ2, H2, J, q⟩ := z; exact done (v := .non) (u := .none) J rfl q
  | ret u => obtain ⟨v, σ2, H2, J, r, q⟩ := z; exact done J r q
  | brk => obtain ⟨_, _, _, q⟩ := z; exact q.elim
  | cont => obtain ⟨_, _, _, q⟩ := z; exact q.elim
section
variable {k : Nat} {f : Addr} {fd : FuncData} {ps : List Str} {sp : Sp} {E : L2.St → XK} {x : Str} {p : Pos} {e : Expr} {es : List Expr} {t : TA}
theorem run_G {pins : List (Addr × Obj)} {σ : L2.St} {H : Hp} {s : Shared} {Q : VK} {us : List Value} {vs : List V} (G : FnG X.prog X.w X.K X.mg X.base k f fd ps sp) (hr : Room k X.A) (hgd : X.A.guards = some []) (hb : Binds X.K fd ps []) (hx : PassesAt (L2.CX X.prog X.w) X σ (E σ))
    (I : Inv X pins σ H s) (r : Vals vs us) (h : sp vs H Q (E σ)) : wpAny (model X.prog X.w) X.A (call (.ref f) us) (EP X pins σ Q) X.xe s := by
  have hl : us.length = ps.length := r.length.symm.trans (G.len _ _ _ _ h)
  have b := hb s us I.kIn ((congrArg List.length (List.append_nil us)).trans hl)
  rw [List.append_nil] at b
  refine wpAny_call (codeAny_mono (G.run X.A X.stack s H ⟨us, []⟩ us vs Q (E σ) hr hgd I.env0 b r h) fun res s2 z => ?_)
  match res, z with
  | .error e, z => exact hx pins H s e s2 I z
  | .ok (.ret u), z => exact I.after z
  | .ok .next, z => exact False.elim z
  | .ok .brk, z => exact False.elim z
  | .ok .cont, z => exact False.elim z
theorem pe_callG (G : FnG X.prog X.w X.K X.mg X.base k f fd ps sp) (hr : Room k X.A) (hgd : X.A.guards = some []) (hg : Gl X x) (hm : X.mg x = some (.ref f)) (hk : PySem.W.keepIn X.K (.ref f) = true) (hb : Binds X.K fd ps []) (hx : ∀ σ, PassesAt (L2.CX X.prog X.w) X σ (E σ))
    (ha : PA X (e :: es) t) (hdb : (x == ("__debug__" : Str)) = false := by decide) (he : starEach (e :: es) X.env = (false, eval e X.env) :: starEach es X.env := by rfl) (hpl : (backTo pos (starEach es X.env)).any (·.1) = false := by rfl) : PE X (.Call (.Name x p) (e :: es) [] pos) (tCallS sp E t) :=
  ⟨fun pins s σ H Q I h => wpAny_Call_Name_kw (ld_glob I hg hm (PySem.W.callWith_K (h₀ := X.base) I.ok.mod.kin hk (thn (ha.run pos pins s σ H _ I h) fun us s1 ⟨vs, H1, I1, r, q⟩ => ⟨I1.kIn, run_G G hr hgd hb (hx σ) I1 r q⟩) he hpl) hdb)⟩
end
abbrev E0S : L2.St → XK := fun _ _ _ _ => False
theorem passG {X : Cx} : ∀ σ, PassesAt (L2.CX X.prog X.w) X σ (E0S σ) := fun _ _ _ _ _ _ _ h => by
  obtain ⟨_, _, _, _, _, _, _, _, _, _, _, _, z⟩ := h
  exact z.elim
structure Cal (P : Program) (w : World) (K : PySem.W.Frag) (mg : Str → Option Value) (base : Heap) (k : Nat) (x : Str) (n : Nat) (asp : ASp) : Prop where
  ex : ∃ (f : Addr) (fd : FuncData) (ps : List Str), FnG P w K mg base k f fd ps (spOf ⟨w, mg⟩ K n asp) ∧ mg x = some (.ref f) ∧ PySem.W.keepIn K (.ref f) = true ∧ Binds K fd ps []
theorem sim_call {w : Gd} (hw : B.g = w) {n : Nat} {asp : ASp} {E : L2.St → XK} {ta : TA} {a : AA'} (ha : SimA B K n ta a) : SimE B K (tCallS (spOf w K n asp) E ta) (aCall asp a) := by
  subst hw
  intro σ s F C R H Q P hs hS h k
  refine ha σ s F C R H _ _ hs hS h fun ds vs F1 C1 H1 e1 S1 r1 hl h1 => ?_
  exact ⟨by rw [r1.length, hl], F1, C1, R, ds, P, S1.nil, r1, h1, fun d v F2 C2 H2 e2 S2 r2 h2 => k d v F2 C2 H2 (e1.trans e2) (S1.back e2 S2) r2 h2⟩
section
variable {e : Expr} {es : List Expr} {n : Nat} {t : TA} {a : AA'} {x : Str} {p : Pos} {asp : ASp} {k j : Nat}
theorem ae_call {g : Gd} (c : Cal X.prog X.w X.K X.mg X.base k x n asp) (hr : Room j X.A) (hgd : X.A.guards = some []) (ha : AA B X (e :: es) n t a) (hw : B.g = g := by first | rfl | assumption) (hX : (⟨X.w, X.mg⟩ : Gd) = g := by rfl) (hk : k ≤ j := by decide) (hg : Gl X x := by rfl)
    (hdb : (x == ("__debug__" : Str)) = false := by decide) (he : starEach (e :: es) X.env = (false, eval e X.env) :: starEach es X.env := by rfl) (hpl : (backTo pos (starEach es X.env)).any (·.1) = false := by rfl) (hK : X.K = K := by rfl) :
    AE B X (.Call (.Name x p) (e :: es) [] pos) (tCallS (spOf g K n asp) E0S t) (aCall asp a) := by
  subst hK
  exact ⟨by
  obtain ⟨f, fd, ps, F, hm, kp, b⟩ := c.ex
  rw [← hX]
  exact pe_callG F (hr.mono hk) hgd hg hm kp b passG ha.pa hdb he hpl, sim_call hw ha.sim⟩
end
/-- a def's body as what the def does -/
def aBody (n : Nat) (b : AS') : ASp := fun ds C P => b ⟨fun _ C' => P .non C', P, fun _ _ => False, fun _ _ => False⟩ (ds.map some ++ List.replicate (n - ds.length) none) C
theorem fnA {P : Program} {w : World} {K : PySem.W.Frag} {mg : Str → Option Value} {base : Heap} {x qual : Str} {st : Stmt} {f : Addr} {fd : FuncData} {N ps : List Str} {k : Nat} {b : AS'} {asp : ASp} (F : L2.Fun K x qual st f fd) (S : FnScope N ps (defScope st))
    (hbody : ∀ (cdv : Value) (A : Around) (outer : List Env) (s : Shared) (H : Hp) (E : XK), Room k (A.deeper (envOfC qual (defScope st) s.heap.objs.size f cdv)) → A.guards = some [] → ∃ ts, ASs (Bs.nil ⟨w, mg⟩) (cxOf (L2.CX P w) P w K mg base N qual (defScope st) f cdv A outer s H E).nox (defBody st) ts b)
    (h : ∀ ds C P, ds.length = ps.length → asp ds C P → aBody N.length b ds C P) : FnG P w K mg base (k + 1) f fd ps (spOf ⟨w, mg⟩ K ps.length asp) := by
  refine fnG_of F S (fun vs H Q E z => z.1) (fun cdv A outer s H vs Q E hr hg z => ?_)
  obtain ⟨ts, hps⟩ := hbody cdv A outer s H E hr hg
  obtain ⟨hl, F1, C, R, ds, P1, hS, hR, ha, hk⟩ := z
  refine ⟨ts, hps.ps.nox, ?_⟩
  have hb := h ds C P1 (by rw [← hR.length, hl]) ha
  refine hps.sim { nx := fun _ H' => Q .non H', rt := Q } ⟨fun _ C' => P1 .non C', P1, fun _ _ => False, fun _ _ => False⟩ _ _ F1 C R H ⟨fun s σ F' C' H' e _ S h => ?_, fun d v F' C' H' e r S h => ?_, fun _ _ _ _ _ _ _ _ h => h.elim, fun _ _ _ _ _ _ _ _ h => h.elim⟩ (Slo.start hR N.length) hS hb
  · exact hk .non .non F' C' H' e S .non h
  · exact hk d v F' C' H' e S r h
theorem calA {P : Program} {w : World} {K : PySem.W.Frag} {mg : Str → Option Value} {base : Heap} {x y qual : Str} {st : Stmt} {f : Addr} {fd : FuncData} {N ps : List Str} {k n : Nat} {b : AS'} {asp : ASp} (F : L2.Fun K x qual st f fd) (S : FnScope N ps (defScope st)) (hn : ps.length = n) (hm : mg y = some (.ref f)) (hb : Binds K fd ps [])
    (hbody : ∀ (cdv : Value) (A : Around) (outer : List Env) (s : Shared) (H : Hp) (E : XK), Room k (A.deeper (envOfC qual (defScope st) s.heap.objs.size f cdv)) → A.guards = some [] → ∃ ts, ASs (Bs.nil ⟨w, mg⟩) (cxOf (L2.CX P w) P w K mg base N qual (defScope st) f cdv A outer s H E).nox (defBody st) ts b)
    (h : ∀ ds C P, ds.length = n → asp ds C P → aBody N.length b ds C P) : Cal P w K mg base (k + 1) y n asp := by
  subst hn
  exact ⟨f, fd, ps, fnA F S hbody h, hm, F.kp, hb⟩
structure AMt (B : Bs) (X : Cx) (id : String) (r : V → List V → Hp → VK → Prop) (a : D → ASp) : Prop where
  op : MtR X id r
  sim : SimRM B X.K r a
def isTy (T : String) (C : AH) (d : D) : Bool := match d with
  | .str _ => T == "str"
  | .lst _ => T == "list"
  | .scr _ => T == "list"
  | .dk _ => T == "dict"
  | .ce p => (match C p with | some (.lst _) => T == "list" | some (.dk _) => T == "dict" | _ => false)
  | _ => false
theorem isTy_ok {F : Hp} {C : AH} {R H : Hp} {v : V} {d : D} {T : String} (hS : Sat B K F C R H) (r : Rep K F v d) (h : isTy T C d = true) : tyV K T v H := by
  cases r with
  | str x => simpa [isTy, tyV] using h
  | lst e q => exact .inl ⟨by simpa [isTy] using h, _, SqL.of (hS.ex _ _ e)⟩
  | scr e => exact .inl ⟨by simpa [isTy] using h, _, hS.ex.l e⟩
  | dk e q => exact .inr (.inr (.inl ⟨by simpa [isTy] using h, .inl ⟨_, hS.ex _ _ e⟩⟩))
  | ce p =>
    simp only [isTy] at h
    split at h
    · rename_i e
      obtain ⟨_, o, h1, h2⟩ := hS.cell p _ e
      cases h2; exact .inl ⟨by simpa using h, _, SqL.of h1⟩
    · rename_i e
      obtain ⟨_, o, h1, h2⟩ := hS.cell p _ e
      cases h2; exact .inr (.inr (.inl ⟨by simpa using h, .inl ⟨_, h1⟩⟩))
    · cases h
  | _ => cases h
def aMeth (T : String) (m : D → ASp) (o : AE') (a : AA') : AE' := fun s C P => o s C fun x C1 => isTy T C1 x = true ∧ a s C1 fun ds C2 => m x ds C2 P
def aMeth0 (T : String) (m : D → ASp) (o : AE') : AE' := fun s C P => o s C fun x C1 => isTy T C1 x = true ∧ m x [] C1 P
section
variable {o e : Expr} {es : List Expr} {n : Nat} {to : TE} {t : TA} {ao : AE'} {a : AA'} {T id : String} {name : Str} {r : V → List V → Hp → VK → Prop} {ar : D → ASp} {apos cpos : Pos}
theorem ae_meth (pa : PlainAttrs T) (slot : Slot T name id) (hty : typeOf (.builtin id) = pure (.type "method_descriptor")) (hm : AMt B X id r ar) (ho : AE B X o to ao) (ha : AA B X (e :: es) n t a)
    (hbase : attributeBase o name X.env (eval o X.env) = eval o X.env := by rfl)
    (hfew : ((backTo cpos (starEach (e :: es) X.env)).all (fun x => !x.1) && (backToKw cpos (keywordEach [] X.env)).all (fun x => x.1.isSome)
      && decide ((e :: es).length + ([] : List Keyword).length + (if ([] : List Keyword).isEmpty then 0 else 1) < 30)) = true := by rfl)
    (hline : (apos.endLine == cpos.line) = true := by rfl) (hs : starEach (e :: es) X.env = (false, eval e X.env) :: starEach es X.env := by rfl) (hplain : (backTo cpos (starEach es X.env)).any (·.1) = false := by rfl) (hK : X.K = K := by rfl) :
    AE B X (.Call (.Attribute o name apos) (e :: es) [] cpos) (tBM K T r to t) (aMeth T ar ao a) := by
  subst hK
  exact ⟨pe_bm pa slot hty hm.op ho.pe ha.pa hbase hfew hline hs hplain, by
  intro σ s F C R H Q P hs hS h0 k
  refine ho.sim σ s F C R H _ _ hs hS h0 fun x v F1 C1 H1 e1 S1 r1 h1 => ⟨isTy_ok S1 r1 h1.1, ?_⟩
  refine ha.sim σ s F1 C1 R H1 _ _ (hs.mono e1) S1 h1.2 fun ds vs F2 C2 H2 e2 S2 r2 hl h2 => ?_
  exact hm.sim v x vs ds F2 C2 R H2 Q P S2 (r1.mono e2) r2 h2 fun d u F3 C3 H3 e3 S3 r3 h3 => k d u F3 C3 H3 ((e1.trans e2).trans e3) S3 r3 h3⟩
end
theorem cellL {F : Hp} {C : AH} {R H : Hp} {p : Addr} {ds : List D} (hS : Sat B K F C R H) (e : C p = some (.lst ds)) : ∃ xs, H p = some (.lst xs) ∧ RepL K F xs ds := by
  obtain ⟨_, o, h1, h2⟩ := hS.cell p _ e
  cases h2
  exact ⟨_, h1, by assumption⟩
def aAppend : D → ASp := fun x ds C P => match x, ds with
  | .ce p, [d] => (match C p with | some (.lst us) => us.length < sizeLine ∧ P .non (put C p (.lst (us ++ [d]))) | _ => False)
  | _, _ => False
theorem am_append : AMt B X "list.append" rAppend aAppend := ⟨fun pins s σ H x xs v us Q I r1 r2 h => mt_append pins s σ H x xs v us Q I r1 r2 h, by
  intro v d vs ds F C R H Q P hS r1 r2 h k
  unfold aAppend at h
  split at h
  · cases r1
    cases r2 with
    | cons r2 r3 =>
      cases r3
      split at h
      · rename_i e
        obtain ⟨xs, h1, h2⟩ := cellL hS e
        exact ⟨_, xs, _, rfl, rfl, h1, by rw [h2.length]; exact h.1, k _ _ F _ _ (Ex.refl F) (hS.mutC e (.lst (h2.append (.cons r2 .nil)))) .non h.2⟩
      · exact h.elim
  · exact h.elim⟩
theorem walk_l {F : Hp} {a : Addr} {ds : List D} {hold : AH → Prop} (h : ∀ F' C' R' H', Ex F F' → Sat B K F' C' R' H' → hold C' → ∃ xs, SqL K H' a xs ∧ RepL K F' xs ds) : Walks B K F ds hold (Itl K a) := by
  refine ⟨fun F' C' R' H' e S hc => ?_, fun F' C' R' H' i e S hc hi => ?_, fun F' C' R' H' i x H'' e S hc hi y => ?_⟩
  · obtain ⟨xs, h1, h2⟩ := h F' C' R' H' e S hc
    exact ⟨xs, h1, by rw [h2.length]; exact Nat.le_refl _⟩
  · obtain ⟨xs, h1, h2⟩ := h F' C' R' H' e S hc
    exact ⟨xs, xs[i]'(by rw [h2.length]; exact hi), h1, by simp⟩
  · obtain ⟨xs, h1, h2⟩ := h F' C' R' H' e S hc
    obtain ⟨e1, y⟩ := y
    subst e1
    obtain ⟨d, h3, h4⟩ := h2.get (y xs h1)
    exact ⟨d, F', h3, Ex.refl F', S, h4⟩
theorem asL_later {F F' : Hp} {C C' : AH} {R R' H H' : Hp} {v : V} {d : D} {ds : List D} (hS : Sat B K F C R H) (r : Rep K F v d) (h : asLr C d = some ds) (e : Ex F F') (S' : Sat B K F' C' R' H') (hc : asLr C' d = some ds) : ∀ a, v = .ref a → ∃ xs, SqL K H' a xs ∧ RepL K F' xs ds := by
  intro a ea
  obtain ⟨b, xs, e1, h1, h2⟩ := asLr_ok S' (r.mono e) hc
  rw [ea] at e1
  cases e1
  exact ⟨xs, h1, h2⟩
/-- for x in a list -/
def aIL (a : AE') : AI' := fun s C P => a s C fun x C1 => match asLr C1 x with | some ds => P ds (fun C' => asLr C' x = some ds) C1 | none => False
theorem ai_list {tg e : Expr} {te : TE} {a : AE'} (h : AE B X e te a) (hK : X.K = K := by rfl) : AI B X tg e (iList K te) (aIL a) := by
  subst hK
  exact ⟨pi_list h.pe, by
  intro σ s F C R H Q P hs hS h0 k
  refine h.sim σ s F C R H _ _ hs hS h0 fun x v F1 C1 H1 e1 S1 r1 h1 => ?_
  split at h1
  · rename_i ds q
    obtain ⟨b, xs, e2, h2, h3⟩ := asLr_ok S1 r1 q
    exact ⟨b, e2, ⟨xs, h2⟩, k ds _ _ F1 C1 H1 e1 S1 (walk_l fun F' C' R' H' e' S' hc => asL_later S1 r1 q e' S' hc b e2) h1⟩
  · exact h1.elim⟩
/-- for x in a tuple -/
def aIT (a : AE') : AI' := fun s C P => a s C fun x C1 => match asT x with | some ds => P ds (fun _ => True) C1 | none => False
theorem ai_tup {tg e : Expr} {te : TE} {a : AE'} (h : AE B X e te a) (hK : X.K = K := by rfl) : AI B X tg e (iTup K te) (aIT a) := by
  subst hK
  exact ⟨pi_tup h.pe, by
  intro σ s F C R H Q P hs hS h0 k
  refine h.sim σ s F C R H _ _ hs hS h0 fun x v F1 C1 H1 e1 S1 r1 h1 => ?_
  split at h1
  · rename_i ds q
    obtain ⟨b, xs, e2, h2, h3⟩ := asT_ok S1 r1 q
    refine ⟨b, e2, ⟨xs, SqT.of h2⟩, k ds _ _ F1 C1 H1 e1 S1 ⟨fun F' C' R' H' e S _ => ?_, fun F' C' R' H' i e S _ hi => ?_, fun F' C' R' H' i x H'' e S _ hi y => ?_⟩ h1⟩
    · obtain ⟨b', xs', e2', h2', h3'⟩ := asT_ok S (r1.mono e) q
      rw [e2] at e2'; cases e2'
      exact ⟨xs', SqT.of h2', by rw [h3'.length]; exact Nat.le_refl _⟩
    · obtain ⟨b', xs', e2', h2', h3'⟩ := asT_ok S (r1.mono e) q
      rw [e2] at e2'; cases e2'
      exact ⟨xs', xs'[i]'(by rw [h3'.length]; exact hi), SqT.of h2', by simp⟩
    · obtain ⟨b', xs', e2', h2', h3'⟩ := asT_ok S (r1.mono e) q
      rw [e2] at e2'; cases e2'
      obtain ⟨e3, y⟩ := y
      subst e3
      obtain ⟨d, h4, h5⟩ := h3'.get (y xs' (SqT.of h2'))
      exact ⟨d, F', h4, Ex.refl F', S, h5⟩
  · exact h1.elim⟩
def rangeD (lo : Int) (n : Nat) : List D := (List.range n).map fun (i : Nat) => D.int (lo + i)
theorem rangeD_get {lo : Int} {n i : Nat} (h : i < n) : (rangeD lo n)[i]? = some (.int (lo + i)) := by
  unfold rangeD
  rw [List.getElem?_map, List.getElem?_range h]
  rfl
theorem rangeD_len (lo : Int) (n : Nat) : (rangeD lo n).length = n := by
  unfold rangeD
  rw [List.length_map, List.length_range]
theorem walk_r {F : Hp} (lo : Int) (n : Nat) : Walks B K F (rangeD lo n) (fun _ => True) (Itr lo n) := by
  refine ⟨fun F' C' R' H' e S _ => ?_, fun F' C' R' H' i e S _ hi => ?_, fun F' C' R' H' i x H'' e S _ hi y => ?_⟩
  · rw [rangeD_len]; exact Nat.le_refl _
  · rw [rangeD_len] at hi; exact hi
  · rw [rangeD_len] at hi
    obtain ⟨e1, y⟩ := y
    subst e1; subst y
    exact ⟨_, F', rangeD_get hi, Ex.refl F', S, .int _⟩
def aIR1 (a : AA') : AI' := fun s C P => a s C fun ds C1 => match ds with | [.int j] => -(2 ^ 62) ≤ j ∧ j < 2 ^ 62 ∧ P (rangeD 0 j.toNat) (fun _ => True) C1 | _ => False
def aIR2 (a : AA') : AI' := fun s C P => a s C fun ds C1 => match ds with | [.int i, .int j] => (-(2 ^ 62) ≤ i ∧ i < 2 ^ 62 ∧ -(2 ^ 62) ≤ j ∧ j < 2 ^ 62) ∧ P (rangeD i (j - i).toNat) (fun _ => True) C1 | _ => False
theorem ai_range1 {tg e : Expr} {n : Nat} {ta : TA} {a : AA'} {p : Pos} (hm : X.mg "range" = none) (h : AA B X [e] n ta a) (hg : Gl X "range" := by rfl) (hs : starEach [e] X.env = [(false, eval e X.env)] := by rfl) : AI B X tg (.Call (.Name "range" p) [e] [] pos) (iRng1 ta) (aIR1 a) := ⟨pi_range1 hg hm h.pa hs, by
  intro σ s F C R H Q P hs hS h0 k
  refine h.sim σ s F C R H _ _ hs hS h0 fun ds vs F1 C1 H1 e1 S1 r1 hl h1 => ?_
  split at h1
  · cases r1 with | cons r1 r2 => cases r2; cases r1; exact ⟨_, rfl, h1.1, h1.2.1, k _ _ _ F1 C1 H1 e1 S1 (walk_r 0 _) h1.2.2⟩
  · exact h1.elim⟩
/-- a text, sign by sign -/
def signs (z : Str) : List D := z.cps.toList.map fun c => D.str ⟨#[c]⟩
def aIS (a : AE') : AI' := fun s C P => a s C fun x C1 => match x with | .str z => P (signs z) (fun _ => True) C1 | _ => False
/-- enumerate of a list -/
def enumD (ds : List D) : List D := (List.range ds.length).map fun (i : Nat) => D.tup [.int i, ds.getD i .non]
theorem enumD_len (ds : List D) : (enumD ds).length = ds.length := by unfold enumD; rw [List.length_map, List.length_range]
theorem enumD_get {ds : List D} {i : Nat} {d : D} (h : ds[i]? = some d) : (enumD ds)[i]? = some (.tup [.int i, d]) := by
  unfold enumD
  have hi := (List.getElem?_eq_some_iff.mp h).1
  rw [List.getElem?_map, List.getElem?_range hi]
  simp [List.getD, h]
def aIE (a : AA') : AI' := fun s C P => a s C fun us C1 => match us with | [x] => (match asLr C1 x with | some ds => P (enumD ds) (fun C' => asLr C' x = some ds) C1 | none => False) | _ => False
theorem ai_enum {e : Expr} {elts : List Expr} {kk n : Nat} {tpos p : Pos} {ta : TA} {a : AA'} (hm : X.mg "enumerate" = none) (h : AA B X [e] n ta a) (hg : Gl X "enumerate" := by rfl) (hs : starEach [e] X.env = [(false, eval e X.env)] := by rfl) (hK : X.K = K := by rfl) : AI B X (.Tuple elts kk tpos) (.Call (.Name "enumerate" p) [e] [] pos) (iEnum K ta) (aIE a) := by
  subst hK
  exact ⟨pi_enum hg hm h.pa hs, by
  intro σ s F C R H Q P hs hS h0 k
  refine h.sim σ s F C R H _ _ hs hS h0 fun us vs F1 C1 H1 e1 S1 r0 hl h1 => ?_
  split at h1
  · rename_i x
    cases r0 with
    | cons r1 r2 =>
      cases r2
      split at h1
      · rename_i ds q
        obtain ⟨b, xs, e2, h2, h3⟩ := asLr_ok S1 r1 q
        refine ⟨b, xs, by rw [e2], h2, k _ _ _ F1 C1 H1 e1 S1 ⟨fun F' C' R' H' e S hc => ?_, fun F' C' R' H' i e S hc hi => ?_, fun F' C' R' H' i x H'' e S hc hi y => ?_⟩ h1⟩
        · obtain ⟨xs', h4, h5⟩ := asL_later S1 r1 q e S hc b e2
          exact ⟨xs', h4, by rw [h5.length, enumD_len]; exact Nat.le_refl _⟩
        · obtain ⟨xs', h4, h5⟩ := asL_later S1 r1 q e S hc b e2
          rw [enumD_len] at hi
          exact ⟨xs', xs'[i]'(by rw [h5.length]; exact hi), h4, by simp⟩
        · obtain ⟨xs', h4, h5⟩ := asL_later S1 r1 q e S hc b e2
          obtain ⟨T, v, y1, y2, y3, y4⟩ := y
          subst y1; subst y3
          obtain ⟨d, h6, h7⟩ := h5.get (y4 xs' h4)
          have eN := Ex.new (o := .tup [.int (i : Nat), v]) (S.freeF y2)
          exact ⟨_, _, enumD_get h6, eN, S.newF y2 _, .tup ⟨.inl upd_same, fun z => by cases z⟩ (.cons (.int _) (.cons (h7.mono eN) .nil))⟩
      · exact h1.elim
  · exact h1.elim⟩
/-- zip of two lists -/
def zipD (xs ys : List D) : List D := (xs.zip ys).map fun p => D.tup [p.1, p.2]
def aIZ (a : AA') : AI' := fun s C P => a s C fun us C1 => match us with | [x, y] => (match asLr C1 x, asLr C1 y with | some ds, some es => P (zipD ds es) (fun C' => asLr C' x = some ds ∧ asLr C' y = some es) C1 | _, _ => False) | _ => False
end
end AL
namespace AL
open PySem PySem.Spec L2
variable {B : Bs}
section
variable {X : Cx} {pos : Pos} {K : PySem.W.Frag}
theorem EndsR.mono {F F' R : Hp} {E : AEnds} {D' : Ends} (h : EndsR B K F R E D') (e : Ex F F') : EndsR B K F' R E D' :=
  ⟨fun s σ G C H e1 hs S z => h.nx s σ G C H (e.trans e1) hs S z, fun d v G C H e1 r S z => h.rt d v G C H (e.trans e1) r S z, fun s σ G C H e1 hs S z => h.bk s σ G C H (e.trans e1) hs S z, fun s σ G C H e1 hs S z => h.ct s σ G C H (e.trans e1) hs S z⟩
def aGName (i : Nat) : AG' := fun d s C P => P (s.set i (some d)) C
theorem wipe_get (σ : L2.St) (i : Nat) : ∀ vs : List Nat, (L2.wipe σ vs)[i]? = if i ∈ vs then (if i < σ.length then some none else none) else σ[i]?
  | [] => by simp [L2.wipe]
  | v :: vs => by
    unfold L2.wipe
    by_cases h : i = v
    · subst h
      rw [if_pos List.mem_cons_self]
      by_cases hl : i < σ.length
      · rw [if_pos hl, List.getElem?_set_self (by rw [L2.wipe_length]; exact hl)]
      · rw [if_neg hl, List.getElem?_eq_none (by rw [List.length_set, L2.wipe_length]; omega)]
    · rw [List.getElem?_set_ne (Ne.symm h), wipe_get σ i vs]
      by_cases h2 : i ∈ vs
      · rw [if_pos h2, if_pos (List.mem_cons_of_mem _ h2)]
      · rw [if_neg h2, if_neg (by simp [h, h2])]
theorem wipe_set {σ : L2.St} {j : Nat} {x : Option V} {vs : List Nat} (h : j ∈ vs) : L2.wipe (σ.set j x) vs = L2.wipe σ vs := by
  apply List.ext_getElem?
  intro i
  rw [wipe_get, wipe_get, List.length_set]
  by_cases h2 : i ∈ vs
  · rw [if_pos h2, if_pos h2]
  · rw [if_neg h2, if_neg h2, List.getElem?_set_ne (fun z => h2 (by rw [← z]; exact h))]
theorem wipe_wipe (σ : L2.St) (vs : List Nat) : L2.wipe (L2.wipe σ vs) vs = L2.wipe σ vs := by
  apply List.ext_getElem?
  intro i
  rw [wipe_get, L2.wipe_length]
  by_cases h2 : i ∈ vs
  · rw [if_pos h2, wipe_get, if_pos h2]
  · rw [if_neg h2]
theorem ag_name (i : Nat) {vs : List Nat} {x : Str} (hN : X.N.Nodup) (hi : X.N[i]? = some x := by rfl) (hx : Loc X.env.scope x := by exact Or.inl rfl) (hv : i ∈ vs := by decide) (hf : X.fn x = true ∨ X.env.scope.names.lookup x = some .local := by first | exact .inl rfl | exact .inr rfl) : AG B X (.Name x pos) vs (gName i) (aGName i) :=
  ⟨pg_name hN hi hx hf, fun v d σ s F C R H Q P hs hS r h k => k _ _ F C H (Ex.refl F) (hs.set r i) hS h, fun x σ H Q Q' h k => k _ _ (wipe_set hv) h⟩
abbrev AGs' := List D → ASt → AH → (ASt → AH → Prop) → Prop
def SimGs (B : Bs) (K : PySem.W.Frag) (g : TGs) (a : AGs') : Prop := ∀ (vs : List V) (ds : List D) (σ : L2.St) (s : ASt) (F : Hp) (C : AH) (R H : Hp) (Q : L2.St → Hp → Prop) (P : ASt → AH → Prop), Slo K F s σ → Sat B K F C R H → RepL K F vs ds → a ds s C P →
  (∀ s' σ' F' C' H', Ex F F' → Slo K F' s' σ' → Sat B K F' C' R H' → P s' C' → Q σ' H') → g vs σ H Q
structure AGs (B : Bs) (X : Cx) (es : List Expr) (vs : List Nat) (g : TGs) (a : AGs') : Prop where
  pg : PGs X es g
  sim : SimGs B X.K g a
  inn : ∀ xs σ H (Q Q' : L2.St → Hp → Prop), g xs σ H Q → (∀ σ2 H2, L2.wipe σ2 vs = L2.wipe σ vs → Q σ2 H2 → Q' σ2 H2) → g xs σ H Q'
def aGNil : AGs' := fun ds s C P => match ds with | [] => P s C | _ => False
def aGCons (g : AG') (r : AGs') : AGs' := fun ds s C P => match ds with | d :: ds => g d s C fun s' C' => r ds s' C' P | [] => False
theorem ags_nil {vs : List Nat} : AGs B X [] vs gNil aGNil := ⟨pgs_nil, fun vs ds σ s F C R H Q P hs hS r h k => by
  unfold aGNil at h
  split at h
  · cases r
    exact ⟨rfl, k s σ F C H (Ex.refl F) hs hS h⟩
  · exact h.elim, fun xs σ H Q Q' h k => ⟨h.1, k _ _ rfl h.2⟩⟩
theorem ags_cons {e : Expr} {es : List Expr} {vs : List Nat} {g : TG} {r : TGs} {a : AG'} {b : AGs'} (h1 : AG B X e vs g a) (h2 : AGs B X es vs r b) (hs : (assignEach (e :: es) X.env).map (·.2) = assign e X.env :: (assignEach es X.env).map (·.2) := by rfl) : AGs B X (e :: es) vs (gCons g r) (aGCons a b) :=
  ⟨pgs_cons h1.pg h2.pg hs, fun vs ds σ s F C R H Q P hs hS rr h k => by
    unfold aGCons at h
    split at h
    · cases rr with
      | cons r1 r2 =>
        refine ⟨_, _, rfl, ?_⟩
        refine h1.sim _ _ σ s F C R H _ _ hs hS r1 h fun s1 σ1 F1 C1 H1 e1 hs1 S1 q1 => ?_
        exact h2.sim _ _ σ1 s1 F1 C1 R H1 Q P hs1 S1 (r2.mono e1) q1 fun s2 σ2 F2 C2 H2 e2 => k s2 σ2 F2 C2 H2 (e1.trans e2)
    · exact h.elim, fun xs σ H Q Q' h k => by
    obtain ⟨v, r, e, h⟩ := h
    refine ⟨v, r, e, ?_⟩
    exact h1.inn v σ H _ _ h fun σ1 H1 w1 q => h2.inn r σ1 H1 _ _ q fun σ2 H2 w2 q2 => k σ2 H2 (w2.trans w1) q2⟩
def aGTup (n : Nat) (g : AGs') : AG' := fun d s C P => match d with | .tup ds => ds.length = n ∧ g ds s C P | _ => False
theorem ag_tup {es : List Expr} {k n : Nat} {vs : List Nat} {t : TGs} {a : AGs'} (h : AGs B X es vs t a) (hc : X.calm = true := by rfl) (hn : (assignEach es X.env).length = n := by rfl) (hst : (assignEach es X.env).findIdx? (·.1) = none := by rfl) (hK : X.K = K := by rfl) : AG B X (.Tuple es k pos) vs (gTup K n t) (aGTup n a) := by
  subst hK
  exact ⟨pg_tup hc h.pg hn hst, fun v d σ s F C R H Q P hs hS r h0 kk => by
    unfold aGTup at h0
    split at h0
    · cases r with
      | tup e q =>
        exact ⟨_, _, rfl, e.sq hS.ex, by rw [q.length]; exact h0.1, h.sim _ _ σ s F C R H Q P hs hS q h0.2 kk⟩
    · exact h0.elim, fun x σ H Q Q' h0 kk => by
    obtain ⟨a, xs, e, hq, hl, h0⟩ := h0
    exact ⟨a, xs, e, hq, hl, h.inn xs σ H _ _ h0 kk⟩⟩
/-- xs[i] = .., a list -/
def aGSet (o i : AE') : AG' := fun d s C P => o s C fun x C1 => i s C1 fun y C2 => match x, y with
  | .ce p, .int j => (match C2 p with | some (.lst us) => (match ixN us.length j with | some k => P s (put C2 p (.lst (us.set k d))) | none => False) | _ => False)
  | _, _ => False
theorem sim_set {to ti : TE} {ao ai : AE'} (ho : SimE B K to ao) (hi : SimE B K ti ai) : SimG B K (gSub to ti rSetL) (aGSet ao ai) := by
  intro v d σ s F C R H Q P hs hS r h k
  refine ho σ s F C R H _ _ hs hS h fun x w F1 C1 H1 e1 S1 r1 h1 => ?_
  refine hi σ s F1 C1 R H1 _ _ (hs.mono e1) S1 h1 fun y w2 F2 C2 H2 e2 S2 r2 h2 => ?_
  split at h2
  · cases r1
    cases r2
    split at h2
    · rename_i us e
      split at h2
      · rename_i j q
        obtain ⟨xs, h3, h4⟩ := cellL S2 e
        exact ⟨_, xs, _, j, rfl, rfl, h3, by rw [h4.length]; exact q, k s σ F2 _ _ (e1.trans e2) (hs.mono (e1.trans e2)) (S2.mutC e (.lst (h4.set (r.mono (e1.trans e2)) j))) h2⟩
      · exact h2.elim
    · exact h2.elim
  · exact h2.elim
def aNext : AS' := fun E s C => E.nx s C
def aSeq (a b : AS') : AS' := fun E s C => a { E with nx := b E } s C
theorem sim_next : SimS B K tNext aNext := fun D' E σ s F C R H hE hs hS h => hE.nx s σ F C H (Ex.refl F) hs hS h
theorem sim_seq {t u : TS} {a b : AS'} (ha : SimS B K t a) (hb : SimS B K u b) : SimS B K (tSeq t u) (aSeq a b) := fun D' E σ s F C R H hE hs hS h =>
  ha { D' with nx := u D' } { E with nx := b E } σ s F C R H ⟨fun s σ F' C' H' e hs S z => hb D' E σ s F' C' R H' (hE.mono e) hs S z, hE.rt, hE.bk, hE.ct⟩ hs hS h
theorem ass_nil : ASs B X [] tNext aNext := ⟨pss_nil, sim_next⟩
theorem ass_one {st : Stmt} {t : TS} {a : AS'} (h : AS B X st t a) : ASs B X [st] t a := ⟨pss_one h.ps, h.sim⟩
theorem ass_cons {st : Stmt} {rest : List Stmt} {t u : TS} {a b : AS'} (h : AS B X st t a) (g : ASs B X rest u b) : ASs B X (st :: rest) (tSeq t u) (aSeq a b) := ⟨pss_cons h.ps g.ps, sim_seq h.sim g.sim⟩
/-- a cell that is changed no more, in a slot -/
def aFrz (i : Nat) (a : AS') : AS' := fun E s C => match s[i]? with
  | some (some (.ce p)) => (match C p with | some (.lst ds) => a E (s.set i (some (.lst ds))) (del C p) | some (.dk es) => a E (s.set i (some (.dk es))) (del C p) | _ => False)
  | _ => False
theorem sim_frz {t : TS} {a : AS'} (i : Nat) (h : SimS B K t a) : SimS B K t (aFrz i a) := fun D' E σ s F C R H hE hs hS h0 => by
  unfold aFrz at h0
  split at h0
  · rename_i p e
    split at h0
    · rename_i ds e2
      obtain ⟨hF, o, h1, h2⟩ := hS.cell p _ e2
      have eN := Ex.new (o := o) hF
      refine h D' E σ _ (upd F p o) _ R H (hE.mono eN) ((hs.mono eN).reset e fun v r => ?_) (hS.freeze e2 h1) h0
      cases r
      cases h2 with
      | lst q => exact .lst upd_same (q.mono eN)
    · rename_i ds e2
      obtain ⟨hF, o, h1, h2⟩ := hS.cell p _ e2
      have eN := Ex.new (o := o) hF
      refine h D' E σ _ (upd F p o) _ R H (hE.mono eN) ((hs.mono eN).reset e fun v r => ?_) (hS.freeze e2 h1) h0
      cases r
      cases h2 with
      | dk q => exact .dk upd_same (q.mono eN)
    · exact h0.elim
  · exact h0.elim
theorem ass_frz {sts : List Stmt} {t : TS} {a : AS'} (i : Nat) (h : ASs B X sts t a) : ASs B X sts t (aFrz i a) := ⟨h.ps, sim_frz i h.sim⟩
def aAsg (e : AE') (g : AG') : AS' := fun E s C => e s C fun x C1 => g x s C1 E.nx
theorem sim_asg {te : TE} {g : TG} {a : AE'} {b : AG'} (ha : SimE B K te a) (hb : SimG B K g b) : SimS B K (tAsg te g) (aAsg a b) := fun D' E σ s F C R H hE hs hS h => by
  refine ha σ s F C R H _ _ hs hS h fun x v F1 C1 H1 e1 S1 r1 h1 => ?_
  exact hb v x σ s F1 C1 R H1 _ _ (hs.mono e1) S1 r1 h1 fun s2 σ2 F2 C2 H2 e2 hs2 S2 h2 => hE.nx s2 σ2 F2 C2 H2 (e1.trans e2) hs2 S2 h2
section
variable {e : Expr} {te : TE} {a : AE'}
theorem sim_name (i : Nat) : SimG B K (gName i) (aGName i) := fun v d σ s F C R H Q P hs hS r h k => k _ _ F C H (Ex.refl F) (hs.set r i) hS h
theorem as_set (i : Nat) {x : Str} {pos' : Pos} (hN : X.N.Nodup) (h : AE B X e te a) (hi : X.N[i]? = some x := by rfl) (hx : Loc X.env.scope x := by exact Or.inl rfl) (hs : swapsWith e (some (.Name x pos')) pos.line X.env = pure false := by rfl) (hf : X.fn x = true ∨ X.env.scope.names.lookup x = some .local := by first | exact .inl rfl | exact .inr rfl) :
    AS B X (.Assign [.Name x pos'] e pos) (tAsg te (gName i)) (aAsg a (aGName i)) := ⟨ps_set hN hi hx h.pe hs hf, sim_asg h.sim (sim_name i)⟩
theorem as_asg {tg : Expr} {vs : List Nat} {g : TG} {b : AG'} (h : AE B X e te a) (hg : AG B X tg vs g b) (hs : swapsWithSole [tg] e pos.line X.env = pure false := by rfl) (hw : swappedStores [tg] e X.env = pure none := by rfl)
    (h1 : (assignEach [tg] X.env).map (·.2) = [assign tg X.env] := by rfl) : AS B X (.Assign [tg] e pos) (tAsg te g) (aAsg a b) := ⟨ps_asg h.pe hg.pg hs hw h1, sim_asg h.sim hg.sim⟩
/-- xs[i] = e -/
theorem as_setL {o i : Expr} {to ti : TE} {ao ai : AE'} {p2 : Pos} (h : AE B X e te a) (ho : AE B X o to ao) (hi : AE B X i ti ai) (hs : swapsWithSole [.Subscript o i p2] e pos.line X.env = pure false := by rfl) (hw : swappedStores [.Subscript o i p2] e X.env = pure none := by rfl)
    (h1 : (assignEach [.Subscript o i p2] X.env).map (·.2) = [assign (.Subscript o i p2) X.env] := by rfl)
    (ha : ∀ v, assign (.Subscript o i p2) X.env v = (do
      let ov ← holding [v] (eval o X.env)
      let iv ← holding [v, ov] (eval i X.env)
      standAt p2
      holding [v, ov, iv] (setItem ov iv v)
      release [v, ov, iv] []) := by intro _; rfl) : AS B X (.Assign [.Subscript o i p2] e pos) (tAsg te (gSub to ti rSetL)) (aAsg a (aGSet ao ai)) :=
  ⟨ps_asg h.pe (pg_sub ho.pe hi.pe set_list ha) hs hw h1, sim_asg h.sim (sim_set ho.sim hi.sim)⟩
def aDrop (a : AE') : AS' := fun E s C => a s C fun _ C1 => E.nx s C1
theorem as_expr (h : AE B X e te a) (hs : swapsWith e none pos.line X.env = pure false := by rfl) : AS B X (.Expr e pos) (tDrop te) (aDrop a) := ⟨ps_expr h.pe hs, fun D' E σ s F C R H hE hs hS h0 => by
  exact h.sim σ s F C R H _ _ hs hS h0 fun x v F1 C1 H1 e1 S1 r1 h1 => hE.nx s σ F1 C1 H1 e1 (hs.mono e1) S1 h1⟩
def aRet (a : AE') : AS' := fun E s C => a s C E.rt
theorem as_ret (h : AE B X e te a) : AS B X (.Return (some e) pos) (tRet te) (aRet a) := ⟨ps_ret h.pe, fun D' E σ s F C R H hE hs hS h0 => by
  exact h.sim σ s F C R H _ _ hs hS h0 fun x v F1 C1 H1 e1 S1 r1 h1 => hE.rt x v F1 C1 H1 e1 r1 S1 h1⟩
end
def aRetN : AS' := fun E _ C => E.rt .non C
def aIfS (c : AT') (a b : AS') : AS' := fun E s C => c s C fun t C1 => if t = true then a E s C1 else b E s C1
theorem as_if {c : Expr} {p q : List Stmt} {tc : TT} {t u : TS} {ac : AT'} {a b : AS'} (hc : AT B X c tc ac) (ha : ASs B X p t a) (hb : ASs B X q u b) : AS B X (.If c p q pos) (tIfS tc t u) (aIfS ac a b) := ⟨ps_if hc.pt ha.ps hb.ps, fun D' E σ s F C R H hE hs hS h0 => by
  refine hc.sim σ s F C R H _ _ hs hS h0 fun t F1 C1 H1 e1 S1 h1 => ?_
  cases t with
  | true => exact ha.sim D' E σ s F1 C1 R H1 (hE.mono e1) (hs.mono e1) S1 h1
  | false => exact hb.sim D' E σ s F1 C1 R H1 (hE.mono e1) (hs.mono e1) S1 h1⟩
def aFor (w : AI') (g : AG') (b : AS') : AS' := fun E s C => w s C fun items hold C1 => ∃ W : Nat → ASt → AH → Prop, W 0 s C1 ∧ (∀ i s' C', i ≤ items.length → W i s' C' → hold C') ∧
  (∀ i d s' C', items[i]? = some d → W i s' C' → g d s' C' fun s2 C2 => b { E with nx := W (i + 1), ct := W (i + 1), bk := E.nx } s2 C2) ∧ ∀ s' C', W items.length s' C' → E.nx s' C'
theorem sim_for {wi : TI} {g : TG} {tb : TS} {aw : AI'} {ag : AG'} {ab : AS'} (hi : SimI B K wi aw) (hg : SimG B K g ag) (hb : SimS B K tb ab) : SimS B K (tFor wi g tb) (aFor aw ag ab) := fun D' E σ s F C R H hE hs hS h => by
  refine hi σ s F C R H _ _ hs hS h fun items hold J F1 C1 H1 e1 S1 Wk h1 => ?_
  obtain ⟨W, h0, hh, hstep, hend⟩ := h1
  refine ⟨fun i m σ' H' => m = items.length - i ∧ i ≤ items.length ∧ ∃ s' F' C', Ex F1 F' ∧ Slo K F' s' σ' ∧ Sat B K F' C' R H' ∧ W i s' C', ⟨items.length, by simp, Nat.zero_le _, s, F1, C1, Ex.refl F1, hs.mono e1, S1, h0⟩, ?_⟩
  rintro i m σ' H' ⟨rfl, hi, s', F', C', e', hs', S', w⟩
  by_cases hlt : i < items.length
  · refine .inr ⟨Wk.go F' C' R H' i e' S' (hh i s' C' hi w) hlt, fun σ2 H2 => ∃ s2 F2 C2, Ex F1 F2 ∧ Slo K F2 s2 σ2 ∧ Sat B K F2 C2 R H2 ∧ W (i + 1) s2 C2, fun σ2 H2 z => ⟨items.length - (i + 1), by omega, rfl, hlt, z⟩, fun x H'' y => ?_⟩
    obtain ⟨d, F'', hd, e'', S'', r⟩ := Wk.yld F' C' R H' i x H'' e' S' (hh i s' C' hi w) hlt y
    refine hg x d σ' s' F'' C' R H'' _ _ (hs'.mono e'') S'' r (hstep i d s' C' hd w) fun s2 σ2 F2 C2 H2 e2 hs2 S2 h2 => ?_
    have eA : Ex F1 F2 := (e'.trans e'').trans e2
    refine hb _ { E with nx := W (i + 1), ct := W (i + 1), bk := E.nx } σ2 s2 F2 C2 R H2 ⟨fun s3 σ3 F3 C3 H3 e3 hs3 S3 z => ⟨s3, F3, C3, eA.trans e3, hs3, S3, z⟩, fun d v F3 C3 H3 e3 r3 S3 z => hE.rt d v F3 C3 H3 ((e1.trans eA).trans e3) r3 S3 z,
      fun s3 σ3 F3 C3 H3 e3 hs3 S3 z => hE.nx s3 σ3 F3 C3 H3 ((e1.trans eA).trans e3) hs3 S3 z, fun s3 σ3 F3 C3 H3 e3 hs3 S3 z => ⟨s3, F3, C3, eA.trans e3, hs3, S3, z⟩⟩ hs2 S2 h2
  · have e : i = items.length := by omega
    subst e
    exact .inl ⟨Wk.stop F' C' R H' e' S' (hh _ s' C' (Nat.le_refl _) w), hE.nx s' σ' F' C' H' (e1.trans e') hs' S' (hend s' C' w)⟩
theorem as_for {tg iter : Expr} {body : List Stmt} {wi : TI} {vs : List Nat} {g : TG} {tb : TS} {aw : AI'} {ag : AG'} {ab : AS'} (hi : AI B X tg iter wi aw) (hg : AG B X tg vs g ag) (hb : ASs B X body tb ab) (hp : PassesOwn (model X.prog X.w) X.A X.env X.xe := by exact PassesOwn.never) (hc : X.calm = true := by rfl)
    (hs : ∀ x, foldedSetIterable iter X.env x = pure x := by intro _; rfl) : AS B X (.For tg iter body [] pos) (tFor wi g tb) (aFor aw ag ab) := ⟨ps_for hp hc hi.pi hg.pg hb.ps hs, sim_for hi.sim hg.sim hb.sim⟩
def aWhile (c : AT') (b : AS') : AS' := fun E s C => ∃ W : Nat → ASt → AH → Prop, (∃ m, W m s C) ∧ ∀ m s' C', W m s' C' → c s' C' fun t C1 => if t = true then b { E with nx := fun s2 C2 => ∃ m', m' < m ∧ W m' s2 C2, ct := fun s2 C2 => ∃ m', m' < m ∧ W m' s2 C2, bk := E.nx } s' C1 else E.nx s' C1
theorem sim_while {tc : TT} {tb : TS} {ac : AT'} {ab : AS'} (hc : SimT B K tc ac) (hb : SimS B K tb ab) : SimS B K (tWhile tc tb) (aWhile ac ab) := fun D' E σ s F C R H hE hs hS h => by
  obtain ⟨W, ⟨m0, h0⟩, hstep⟩ := h
  refine ⟨fun m σ' H' => ∃ s' F' C', Ex F F' ∧ Slo K F' s' σ' ∧ Sat B K F' C' R H' ∧ W m s' C', ⟨m0, s, F, C, Ex.refl F, hs, hS, h0⟩, ?_⟩
  rintro m σ' H' ⟨s', F', C', e', hs', S', w⟩
  refine hc σ' s' F' C' R H' _ _ hs' S' (hstep m s' C' w) fun t F1 C1 H1 e1 S1 h1 => ?_
  have eA : Ex F F1 := e'.trans e1
  cases t with
  | true =>
    refine ⟨fun σ2 H2 => ∃ m', m' < m ∧ ∃ s2 F2 C2, Ex F F2 ∧ Slo K F2 s2 σ2 ∧ Sat B K F2 C2 R H2 ∧ W m' s2 C2, fun σ2 H2 z => z, ?_⟩
    refine hb _ { E with nx := fun s2 C2 => ∃ m', m' < m ∧ W m' s2 C2, ct := fun s2 C2 => ∃ m', m' < m ∧ W m' s2 C2, bk := E.nx } σ' s' F1 C1 R H1 ⟨fun s3 σ3 F3 C3 H3 e3 hs3 S3 z => ?_, fun d v F3 C3 H3 e3 r3 S3 z => hE.rt d v F3 C3 H3 (eA.trans e3) r3 S3 z,
      fun s3 σ3 F3 C3 H3 e3 hs3 S3 z => hE.nx s3 σ3 F3 C3 H3 (eA.trans e3) hs3 S3 z, fun s3 σ3 F3 C3 H3 e3 hs3 S3 z => ?_⟩ (hs'.mono e1) S1 h1
    · obtain ⟨m', hm, z⟩ := z
      exact ⟨m', hm, s3, F3, C3, eA.trans e3, hs3, S3, z⟩
    · obtain ⟨m', hm, z⟩ := z
      exact ⟨m', hm, s3, F3, C3, eA.trans e3, hs3, S3, z⟩
  | false => exact hE.nx s' σ' F1 C1 H1 eA (hs'.mono e1) S1 h1
theorem as_while {c : Expr} {body : List Stmt} {tc : TT} {tb : TS} {ac : AT'} {ab : AS'} (hc : AT B X c tc ac) (hb : ASs B X body tb ab) (hp : PassesOwn (model X.prog X.w) X.A X.env X.xe := by exact PassesOwn.never) : AS B X (.While c body [] pos) (tWhile tc tb) (aWhile ac ab) := ⟨ps_while hp hc.pt hb.ps, sim_while hc.sim hb.sim⟩
def aYes : AT' := fun _ C P => P true C
theorem ats_nil : ATs B X [] tYes aYes := ⟨pts_nil, fun σ s F C R H Q P hs hS h k => k true F C H (Ex.refl F) hS h⟩
theorem ats_one {c : Expr} {t : TT} {a : AT'} (h : AT B X c t a) : ATs B X [c] t a := ⟨pts_one h.pt, h.sim⟩
/-- the list as it is made; fin: what becomes of it -/
def aLcW (w : AI') (g : AG') (t : AT') (e : AE') (vs : List Nat) (fin : List D → AH → Prop) : ASt → AH → Prop := fun s C => w s C fun items hold C1 => items.length ≤ sizeLine ∧ ∃ W : Nat → List D → AH → Prop, W 0 [] C1 ∧ (∀ i acc C', i ≤ items.length → W i acc C' → hold C') ∧
  (∀ i d acc C', items[i]? = some d → W i acc C' → g d (wipeA s vs) C' fun s2 C2 => t s2 C2 fun b C3 => if b = true then e s2 C3 fun y C4 => W (i + 1) (acc ++ [y]) C4 else W (i + 1) acc C3) ∧ ∀ acc C', W items.length acc C' → fin acc C'
def aLc (w : AI') (g : AG') (t : AT') (e : AE') (vs : List Nat) : AE' := fun s C P => aLcW w g t e vs (fun acc C' => P (.lst acc) C') s C
def aLcM (w : AI') (g : AG') (t : AT') (e : AE') (vs : List Nat) : AE' := fun s C P => aLcW w g t e vs (fun acc C' => ∀ p, C' p = none → P (.ce p) (put C' p (.lst acc))) s C
theorem lc_sim {wi : TI} {g : TG} {tt : TT} {te : TE} {vs : List Nat} {aw : AI'} {ag : AG'} {at' : AT'} {ae : AE'} {fin : List D → AH → Prop} (hi : SimI B K wi aw) (hg : SimG B K g ag) (hin : GIn vs g) (ht : SimT B K tt at') (he : SimE B K te ae)
    {σ : L2.St} {s : ASt} {F : Hp} {C : AH} {R H : Hp} {Q : VK} (hs : Slo K F s σ) (hS : Sat B K F C R H) (h : aLcW aw ag at' ae vs fin s C)
    (k : ∀ Dl acc accD F' C' H', Ex F F' → R Dl = none → Sat B K F' C' (upd R Dl (.lst acc)) H' → RepL K F' acc accD → fin accD C' → Q (.ref Dl) H') : tLc wi g tt te vs σ H Q := by
  refine hi σ s F C R H _ _ hs hS h fun items hold J F1 C1 H1 e1 S1 Wk h1 => ?_
  obtain ⟨hz, W, h0, hh, hstep, hend⟩ := h1
  intro Dl hD
  have hR := S1.freeR hD
  refine ⟨fun i m H' => m = items.length - i ∧ i ≤ items.length ∧ ∃ F' C' acc accD, Ex F1 F' ∧ Sat B K F' C' (upd R Dl (.lst acc)) H' ∧ RepL K F' acc accD ∧ accD.length ≤ i ∧ W i accD C',
    ⟨items.length, by simp, Nat.zero_le _, F1, C1, [], [], Ex.refl F1, S1.setR (S1.freeF hD) (S1.freeC hD) (S1.freeB hR) _, .nil, Nat.le_refl _, h0⟩, ?_⟩
  rintro i m H' ⟨rfl, hi, F', C', acc, accD, e', S', ra, hl, w⟩
  by_cases hlt : i < items.length
  · refine .inr ⟨Wk.go F' C' _ H' i e' S' (hh i accD C' hi w) hlt, fun H2 => ∃ F2 C2 acc accD, Ex F1 F2 ∧ Sat B K F2 C2 (upd R Dl (.lst acc)) H2 ∧ RepL K F2 acc accD ∧ accD.length ≤ i + 1 ∧ W (i + 1) accD C2, fun H2 z => ⟨items.length - (i + 1), by omega, rfl, hlt, z⟩, fun x H'' y => ?_⟩
    obtain ⟨d, F'', hd, e'', S'', r⟩ := Wk.yld F' C' _ H' i x H'' e' S' (hh i accD C' hi w) hlt y
    refine hin x _ H'' (fun σ2 H2 => tt σ2 H2 fun b H3 => if b = true then te σ2 H3 fun y H4 => ∃ acc, H4 Dl = some (.lst acc) ∧ acc.length < sizeLine ∧ ∃ F2 C2 acc2 accD, Ex F1 F2 ∧ Sat B K F2 C2 (upd R Dl (.lst acc2)) (upd H4 Dl (.lst (acc ++ [y]))) ∧ RepL K F2 acc2 accD ∧ accD.length ≤ i + 1 ∧ W (i + 1) accD C2
      else ∃ F2 C2 acc accD, Ex F1 F2 ∧ Sat B K F2 C2 (upd R Dl (.lst acc)) H3 ∧ RepL K F2 acc accD ∧ accD.length ≤ i + 1 ∧ W (i + 1) accD C2) _ ?_ fun σ2 H2 w2 q => ⟨w2.trans (wipe_wipe σ vs), q⟩
    refine hg x d _ (wipeA s vs) F'' C' _ H'' _ _ ((hs.mono ((e1.trans e').trans e'')).wipe vs) S'' r (hstep i d accD C' hd w) fun s2 σ2 F2 C2 H2 e2 hs2 S2 h2 => ?_
    refine ht σ2 s2 F2 C2 _ H2 _ _ hs2 S2 h2 fun b F3 C3 H3 e3 S3 h3 => ?_
    have eA : Ex F' F3 := (e''.trans e2).trans e3
    cases b with
    | true =>
      refine he σ2 s2 F3 C3 _ H3 _ _ (hs2.mono e3) S3 h3 fun y v F4 C4 H4 e4 S4 r4 h4 => ?_
      obtain ⟨f4, c4, d4⟩ := S4.priv Dl _ upd_same
      refine ⟨acc, d4, ?_, F4, C4, acc ++ [v], accD ++ [y], (e'.trans eA).trans e4, ?_, (ra.mono (eA.trans e4)).append (.cons r4 .nil), by rw [List.length_append]; exact Nat.succ_le_succ hl, h4⟩
      · rw [ra.length]; omega
      · have := S4.setR f4 c4 (S1.freeB hR) (.lst (acc ++ [v]))
        rw [upd_upd] at this
        exact this
    | false => exact ⟨F3, C3, acc, accD, e'.trans eA, S3, ra.mono eA, Nat.le_succ_of_le hl, h3⟩
  · have e : i = items.length := by omega
    subst e
    exact .inl ⟨Wk.stop F' C' _ H' e' S' (hh _ accD C' (Nat.le_refl _) w), k Dl acc accD F' C' H' (e1.trans e') hR S' ra (hend accD C' w)⟩
theorem sim_lc {wi : TI} {g : TG} {tt : TT} {te : TE} {vs : List Nat} {aw : AI'} {ag : AG'} {at' : AT'} {ae : AE'} (hi : SimI B K wi aw) (hg : SimG B K g ag) (hin : GIn vs g) (ht : SimT B K tt at') (he : SimE B K te ae) : SimE B K (tLc wi g tt te vs) (aLc aw ag at' ae vs) := fun σ s F C R H Q P hs hS h k => by
  refine lc_sim hi hg hin ht he hs hS h fun Dl acc accD F' C' H' e1 hR S r h1 => ?_
  have eN := Ex.new (o := .lst acc) (S.priv Dl _ upd_same).1
  exact k _ _ _ C' H' (e1.trans eN) (S.outF hR (hS.freeB hR)) (.lst upd_same (r.mono eN)) h1
theorem sim_lcM {wi : TI} {g : TG} {tt : TT} {te : TE} {vs : List Nat} {aw : AI'} {ag : AG'} {at' : AT'} {ae : AE'} (hi : SimI B K wi aw) (hg : SimG B K g ag) (hin : GIn vs g) (ht : SimT B K tt at') (he : SimE B K te ae) : SimE B K (tLc wi g tt te vs) (aLcM aw ag at' ae vs) := fun σ s F C R H Q P hs hS h k => by
  refine lc_sim hi hg hin ht he hs hS h fun Dl acc accD F' C' H' e1 hR S r h1 => ?_
  exact k _ _ F' _ H' e1 (S.outC hR (hS.freeB hR) (.lst r)) (.ce Dl) (h1 Dl (S.priv Dl _ upd_same).2.1)
section
variable {elt tg iter : Expr} {ifs : List Expr} {scope : Scope} {own : List (Str × Nat)} {wi : TI} {g : TG} {tt : TT} {te : TE} {aw : AI'} {ag : AG'} {at' : AT'} {ae : AE'}
theorem ae_lc (own : List (Str × Nat)) (hN : X.N.Nodup) (hi : AI B X tg iter wi aw) (ok : BlkOk X.N X.env.scope scope own)
    (hg : ∀ (s : Shared) (H : Hp) (C : Addr) (cl : List (Str × Addr)) (fp : List Addr), AG B (X.blk s H scope (compEnvC scope cl C X.env) fp) tg (own.map (·.2)) g ag) (ht : ∀ (s : Shared) (H : Hp) (C : Addr) (cl : List (Str × Addr)) (fp : List Addr), ATs B (X.blk s H scope (compEnvC scope cl C X.env) fp) ifs tt at')
    (he : ∀ (s : Shared) (H : Hp) (C : Addr) (cl : List (Str × Addr)) (fp : List Addr), AE B (X.blk s H scope (compEnvC scope cl C X.env) fp) elt te ae) (hc : X.calm = true := by rfl) (hs : ∀ x, foldedSetIterable iter X.env x = pure x := by intro _; rfl) :
    AE B X (.ListComp elt [⟨tg, iter, ifs, 0⟩] scope pos) (tLc wi g tt te (own.map (·.2))) (aLc aw ag at' ae (own.map (·.2))) :=
  ⟨pe_lc hc hN hi.pi ok (fun s H C cl fp => (hg s H C cl fp).pg) (fun s H C cl fp => (ht s H C cl fp).pts) (fun s H C cl fp => (he s H C cl fp).pe) hs,
    let G := hg X.s_0 (fun _ => none) 0 [] []
    sim_lc hi.sim G.sim G.inn (ht X.s_0 (fun _ => none) 0 [] []).sim (he X.s_0 (fun _ => none) 0 [] []).sim⟩
/-- name = [..] -/
theorem as_setLc (i : Nat) (own : List (Str × Nat)) {y : Str} {py spos : Pos} (hN : X.N.Nodup) (hi : AI B X tg iter wi aw) (hsw : swapsWith (.ListComp elt [⟨tg, iter, ifs, 0⟩] scope pos) (some (.Name y py)) spos.line X.env = pure true) (ok : BlkOk X.N X.env.scope scope own)
    (hg : ∀ (s : Shared) (H : Hp) (C : Addr) (cl : List (Str × Addr)) (fp : List Addr), AG B (X.blk s H scope (compEnvC scope cl C X.env) fp) tg (own.map (·.2)) g ag) (ht : ∀ (s : Shared) (H : Hp) (C : Addr) (cl : List (Str × Addr)) (fp : List Addr), ATs B (X.blk s H scope (compEnvC scope cl C X.env) fp) ifs tt at')
    (he : ∀ (s : Shared) (H : Hp) (C : Addr) (cl : List (Str × Addr)) (fp : List Addr), AE B (X.blk s H scope (compEnvC scope cl C X.env) fp) elt te ae) (hy : X.N[i]? = some y := by rfl) (hyl : X.env.scope.names.lookup y = some .local := by rfl) (hc : X.calm = true := by rfl) (hs : ∀ x, foldedSetIterable iter X.env x = pure x := by intro _; rfl) :
    AS B X (.Assign [.Name y py] (.ListComp elt [⟨tg, iter, ifs, 0⟩] scope pos) spos) (tAsg (tLc wi g tt te (own.map (·.2))) (gName i)) (aAsg (aLc aw ag at' ae (own.map (·.2))) (aGName i)) :=
  ⟨ps_setLc hc hN hy hyl hsw hi.pi ok (fun s H C cl fp => (hg s H C cl fp).pg) (fun s H C cl fp => (ht s H C cl fp).pts) (fun s H C cl fp => (he s H C cl fp).pe) hs,
    let G := hg X.s_0 (fun _ => none) 0 [] []
    sim_asg (sim_lc hi.sim G.sim G.inn (ht X.s_0 (fun _ => none) 0 [] []).sim (he X.s_0 (fun _ => none) 0 [] []).sim) (sim_name i)⟩
theorem as_setLcM (i : Nat) (own : List (Str × Nat)) {y : Str} {py spos : Pos} (hN : X.N.Nodup) (hi : AI B X tg iter wi aw) (hsw : swapsWith (.ListComp elt [⟨tg, iter, ifs, 0⟩] scope pos) (some (.Name y py)) spos.line X.env = pure true) (ok : BlkOk X.N X.env.scope scope own)
    (hg : ∀ (s : Shared) (H : Hp) (C : Addr) (cl : List (Str × Addr)) (fp : List Addr), AG B (X.blk s H scope (compEnvC scope cl C X.env) fp) tg (own.map (·.2)) g ag) (ht : ∀ (s : Shared) (H : Hp) (C : Addr) (cl : List (Str × Addr)) (fp : List Addr), ATs B (X.blk s H scope (compEnvC scope cl C X.env) fp) ifs tt at')
    (he : ∀ (s : Shared) (H : Hp) (C : Addr) (cl : List (Str × Addr)) (fp : List Addr), AE B (X.blk s H scope (compEnvC scope cl C X.env) fp) elt te ae) (hy : X.N[i]? = some y := by rfl) (hyl : X.env.scope.names.lookup y = some .local := by rfl) (hc : X.calm = true := by rfl) (hs : ∀ x, foldedSetIterable iter X.env x = pure x := by intro _; rfl) :
    AS B X (.Assign [.Name y py] (.ListComp elt [⟨tg, iter, ifs, 0⟩] scope pos) spos) (tAsg (tLc wi g tt te (own.map (·.2))) (gName i)) (aAsg (aLcM aw ag at' ae (own.map (·.2))) (aGName i)) :=
  ⟨ps_setLc hc hN hy hyl hsw hi.pi ok (fun s H C cl fp => (hg s H C cl fp).pg) (fun s H C cl fp => (ht s H C cl fp).pts) (fun s H C cl fp => (he s H C cl fp).pe) hs,
    let G := hg X.s_0 (fun _ => none) 0 [] []
    sim_asg (sim_lcM hi.sim G.sim G.inn (ht X.s_0 (fun _ => none) 0 [] []).sim (he X.s_0 (fun _ => none) 0 [] []).sim) (sim_name i)⟩
end
end
end AL
namespace AL
open PySem PySem.Spec L2
variable {B : Bs}
theorem law_sp {asp : ASp} {n : Nat} (h : ∀ ns : List Int, ns.length ≤ n → asp [.scr ns] (fun _ => none) (fun d _ => d = .bl true)) (w : Gd) (K : PySem.W.Frag) (H : Hp) (a : Addr) (ns : List Int) (hn : ns.length ≤ n) (hS : SqL K H a (ns.map V.int)) :
    spOf w K 1 asp [.ref a] H (fun v _ => v = .bl true) fun _ _ _ => False := by
  refine ⟨rfl, H, fun _ => none, fun _ => none, [.scr ns], fun d _ => d = .bl true, ⟨fun _ _ z => (by cases z), fun _ _ z => (by cases z), Ex.refl H, fun _ _ z => (by cases z), fun _ _ z => (by cases z)⟩, .cons (.scr hS) .nil, h ns hn, fun d v F' C' H' _ _ r e => ?_⟩
  subst e
  cases r
  rfl
end AL
namespace AL
open PySem L2
theorem atI_nat' {α : Type} {xs : List α} {i : Nat} {x : α} (h : xs[i]? = some x) : atI xs (i : Int) = some x := by
  have hi := (List.getElem?_eq_some_iff.mp h).1
  unfold atI ixN
  rw [if_pos (by omega), if_pos (by omega)]
  simpa using h
section
variable {a b : AS'} {nx : ASt → AH → Prop} {rt : D → AH → Prop} {bk ct : ASt → AH → Prop} {s : ASt} {C : AH} {e e1 e2 e3 : AE'} {t t1 t2 : AT'} {g : AG'} {P : D → AH → Prop} {PB : Bool → AH → Prop} {PA : List D → AH → Prop} {w : AI'} {aa : AA'}
theorem g_body' {n : Nat} {ds : List D} {s : ASt} (h0 : ds.map some ++ List.replicate (n - ds.length) none = s) (h : a ⟨fun _ C' => P .non C', P, fun _ _ => False, fun _ _ => False⟩ s C) : aBody n a ds C P := by
  subst h0
  exact h
theorem g_gname' {i : Nat} {d : D} {Q : ASt → AH → Prop} {s' : ASt} (h0 : s.set i (some d) = s') (h : Q s' C) : aGName i d s C Q := by
  subst h0
  exact h
theorem g_seq (h : a ⟨b ⟨nx, rt, bk, ct⟩, rt, bk, ct⟩ s C) : aSeq a b ⟨nx, rt, bk, ct⟩ s C := h
theorem g_next (h : nx s C) : aNext ⟨nx, rt, bk, ct⟩ s C := h
theorem g_asg (h : e s C fun x C1 => g x s C1 nx) : aAsg e g ⟨nx, rt, bk, ct⟩ s C := h
theorem g_drop (h : e s C fun _ C1 => nx s C1) : aDrop e ⟨nx, rt, bk, ct⟩ s C := h
theorem g_ret (h : e s C rt) : aRet e ⟨nx, rt, bk, ct⟩ s C := h
theorem g_retN (h : rt .non C) : aRetN ⟨nx, rt, bk, ct⟩ s C := h
theorem g_ifS (h : t s C fun k C1 => if k = true then a ⟨nx, rt, bk, ct⟩ s C1 else b ⟨nx, rt, bk, ct⟩ s C1) : aIfS t a b ⟨nx, rt, bk, ct⟩ s C := h
theorem g_ifF (ht : ∀ K : Bool → AH → Prop, K false C → t s C K) (h : b ⟨nx, rt, bk, ct⟩ s C) : aIfS t a b ⟨nx, rt, bk, ct⟩ s C := ht _ h
theorem g_ifT (ht : ∀ K : Bool → AH → Prop, K true C → t s C K) (h : a ⟨nx, rt, bk, ct⟩ s C) : aIfS t a b ⟨nx, rt, bk, ct⟩ s C := ht _ h
theorem g_ifJ (M : ASt → AH → Prop) (h : ∀ N : ASt → AH → Prop, (∀ s' C', M s' C' → N s' C') → aIfS t a b ⟨N, rt, bk, ct⟩ s C) (k : ∀ s' C', M s' C' → nx s' C') : aIfS t a b ⟨nx, rt, bk, ct⟩ s C := h nx k
theorem g_gtup {n : Nat} {ds : List D} {gs : AGs'} {Q : ASt → AH → Prop} (hn : ds.length = n) (h : gs ds s C Q) : aGTup n gs (.tup ds) s C Q := ⟨hn, h⟩
theorem g_gcons {d : D} {ds : List D} {gs : AGs'} {Q : ASt → AH → Prop} (h : g d s C fun s' C' => gs ds s' C' Q) : aGCons g gs (d :: ds) s C Q := h
theorem g_gnil {Q : ASt → AH → Prop} (h : Q s C) : aGNil [] s C Q := h
def kSet (p : Addr) (d : D) (s : ASt) (Q : ASt → AH → Prop) : D → AH → Prop := fun y C2 => match y with | .int j => (match C2 p with | some (.lst us) => (match ixN us.length j with | some k => Q s (put C2 p (.lst (us.set k d))) | none => False) | _ => False) | _ => False
/-- xs[i] = d, xs a name's cell -/
theorem g_gsetV {i : Nat} {d : D} {p : Addr} {Q : ASt → AH → Prop} (hi : s[i]? = some (some (.ce p))) (h : e2 s C (kSet p d s Q)) : aGSet (aVar i) e2 d s C Q := by
  unfold aGSet aVar
  rw [hi]
  refine (congrArg (e2 s C) ?_).mpr h
  funext y C2
  cases y <;> rfl
theorem g_kSet {j : Int} {p : Addr} {us : List D} {k : Nat} {d : D} {Q : ASt → AH → Prop} (h1 : C p = some (.lst us)) (h2 : ixN us.length j = some k) (h : Q s (put C p (.lst (us.set k d)))) : kSet p d s Q (.int j) C := by
  unfold kSet
  simp only [h1, h2]
  exact h
theorem g_frzL {i : Nat} {p : Addr} {ds : List D} {E : AEnds} (h0 : s[i]? = some (some (.ce p))) (h1 : C p = some (.lst ds)) (h : a E (s.set i (some (.lst ds))) (del C p)) : aFrz i a E s C := by
  unfold aFrz
  rw [h0]
  show (match C p with | some (.lst ds) => a E (s.set i (some (.lst ds))) (del C p) | some (.dk es) => a E (s.set i (some (.dk es))) (del C p) | _ => False)
  rw [h1]
  exact h
theorem g_frzK {i : Nat} {p : Addr} {ds : List (Key × D)} {E : AEnds} (h0 : s[i]? = some (some (.ce p))) (h1 : C p = some (.dk ds)) (h : a E (s.set i (some (.dk ds))) (del C p)) : aFrz i a E s C := by
  unfold aFrz
  rw [h0]
  show (match C p with | some (.lst ds) => a E (s.set i (some (.lst ds))) (del C p) | some (.dk es) => a E (s.set i (some (.dk es))) (del C p) | _ => False)
  rw [h1]
  exact h
theorem g_var {i : Nat} {d : D} (hi : s[i]? = some (some d)) (h : P d C) : aVar i s C P := by
  unfold aVar
  rw [hi]
  exact h
theorem g_yes (h : PB true C) : aYes s C PB := h
theorem g_c {d : D} (h : P d C) : aC d s C P := h
theorem g_op {r : D → D → AH → (D → AH → Prop) → Prop} (h : e1 s C fun x C1 => e2 s C1 fun y C2 => r x y C2 P) : aOp r e1 e2 s C P := h
theorem g_un {r : D → AH → (D → AH → Prop) → Prop} (h : e1 s C fun x C1 => r x C1 P) : aUn r e1 s C P := h
theorem g_sub {i j : Int} (h : P (.int (i - j)) C) : aSub (.int i) (.int j) C P := h
theorem g_lt {i j : Int} (h : P (.bl (decide (i < j))) C) : aLt (.int i) (.int j) C P := h
theorem g_le {i j : Int} (h : P (.bl (decide (i ≤ j))) C) : aLe (.int i) (.int j) C P := h
theorem g_gt {i j : Int} (h : P (.bl (decide (j < i))) C) : aGt (.int i) (.int j) C P := h
theorem g_ge {i j : Int} (h : P (.bl (decide (j ≤ i))) C) : aGe (.int i) (.int j) C P := h
theorem g_mul {i j : Int} (h1 : CMul i j) (h : P (.int (i * j)) C) : aMul (.int i) (.int j) C P := ⟨h1, h⟩
theorem g_div {i j : Int} (h1 : CDiv i j) (h : P (.int (i / j)) C) : aDiv (.int i) (.int j) C P := ⟨h1, h⟩
theorem g_mod {i j : Int} (h1 : 0 < j) (h : P (.int (i % j)) C) : aMod (.int i) (.int j) C P := ⟨h1, h⟩
theorem g_pow {i j : Int} (h1 : CPow i j) (h : P (.int (i ^ j.toNat)) C) : aPow (.int i) (.int j) C P := ⟨h1, h⟩
theorem g_addI {i j : Int} (h : P (.int (i + j)) C) : aAdd (.int i) (.int j) C P := h
theorem g_addT {i j : List D} (h1 : i.length + j.length ≤ sizeLine) (h : P (.tup (i ++ j)) C) : aAdd (.tup i) (.tup j) C P := ⟨h1, h⟩
theorem g_addL {i j : List D} (h1 : i.length + j.length ≤ sizeLine) (h : P (.lst (i ++ j)) C) : aAdd (.lst i) (.lst j) C P := ⟨i, j, rfl, rfl, h1, h⟩
theorem g_eqII {i j : Int} (h : P (.bl (decide (i = j))) C) : aEq (.int i) (.int j) C P := h
theorem g_neII {i j : Int} (h : P (.bl (!decide (i = j))) C) : aNe (.int i) (.int j) C P := h
theorem g_eqBB {i j : Bool} (h : P (.bl (decide (i = j))) C) : aEq (.bl i) (.bl j) C P := h
theorem g_neBB {i j : Bool} (h : P (.bl (!decide (i = j))) C) : aNe (.bl i) (.bl j) C P := h
theorem g_eqTT {i j : Str} (h : P (.bl (decide (i = j))) C) : aEq (.str i) (.str j) C P := h
theorem g_neTT {i j : Str} (h : P (.bl (!decide (i = j))) C) : aNe (.str i) (.str j) C P := h
theorem g_eqP {x y : D} {u v : PyData} (h0 : eqS x y = none) (h1 : pdC C x = some u) (h2 : pdC C y = some v) (h3 : SeqAt.shaped u = true) (h4 : SeqAt.shaped v = true) (h : P (.bl (PyData.eqv u v)) C) : aEq x y C P := by
  unfold aEq aEqN
  rw [h0]
  exact ⟨u, v, h1, h2, h3, h4, h⟩
theorem g_neP {x y : D} {u v : PyData} (h0 : eqS x y = none) (h1 : pdC C x = some u) (h2 : pdC C y = some v) (h3 : SeqAt.shaped u = true) (h4 : SeqAt.shaped v = true) (h : P (.bl (!PyData.eqv u v)) C) : aNe x y C P := by
  unfold aNe aEqN
  rw [h0]
  exact ⟨u, v, h1, h2, h3, h4, h⟩
theorem g_is {x : D} (h : P (.bl (isNon x)) C) : aIsN x .non C P := ⟨rfl, h⟩
theorem g_isnot {x : D} (h : P (.bl (!isNon x)) C) : aNotN x .non C P := ⟨rfl, h⟩
def kTru (PB : Bool → AH → Prop) : D → AH → Prop := fun x C1 => match truth C1 x with | some b => PB b C1 | none => False
theorem g_tru (h : e s C (kTru PB)) : aTru e s C PB := h
theorem g_kTruB {k : Bool} (h : PB k C) : kTru PB (.bl k) C := h
def kB (PB : Bool → AH → Prop) : D → AH → Prop := fun x C1 => match x with | .bl b => PB b C1 | _ => False
theorem g_B (h : e s C (kB PB)) : aB e s C PB := h
theorem g_kB {k : Bool} (h : PB k C) : kB PB (.bl k) C := h
theorem g_and (h : t1 s C fun c C1 => if c = true then t2 s C1 PB else PB false C1) : aAnd t1 t2 s C PB := h
theorem g_or (h : t1 s C fun c C1 => if c = true then PB true C1 else t2 s C1 PB) : aOr t1 t2 s C PB := h
theorem g_not (h : t1 s C fun c C1 => PB (!c) C1) : aNot t1 s C PB := h
def kAndV (e2 : AE') (s : ASt) (P : D → AH → Prop) : D → AH → Prop := fun x C1 => match truth C1 x with | some true => e2 s C1 P | some false => P x C1 | none => False
def kOrV (e2 : AE') (s : ASt) (P : D → AH → Prop) : D → AH → Prop := fun x C1 => match truth C1 x with | some true => P x C1 | some false => e2 s C1 P | none => False
def kNotV (P : D → AH → Prop) : D → AH → Prop := fun x C1 => match truth C1 x with | some b => P (.bl (!b)) C1 | none => False
theorem g_andV (h : e1 s C (kAndV e2 s P)) : aAndV e1 e2 s C P := h
theorem g_orV (h : e1 s C (kOrV e2 s P)) : aOrV e1 e2 s C P := h
theorem g_notV (h : e1 s C (kNotV P)) : aNotV e1 s C P := h
theorem g_kAnd {k : Bool} (h1 : k = true → e2 s C P) (h2 : k = false → P (.bl false) C) : kAndV e2 s P (.bl k) C := by
  cases k
  · exact h2 rfl
  · exact h1 rfl
theorem g_kOr {k : Bool} (h1 : k = true → P (.bl true) C) (h2 : k = false → e2 s C P) : kOrV e2 s P (.bl k) C := by
  cases k
  · exact h2 rfl
  · exact h1 rfl
theorem g_kNot {k : Bool} (h : P (.bl (!k)) C) : kNotV P (.bl k) C := h
theorem g_if (h : t s C fun c C1 => if c = true then e1 s C1 P else e2 s C1 P) : aIf t e1 e2 s C P := h
theorem g_ite {A B : Prop} {k : Bool} (h1 : k = true → A) (h2 : k = false → B) : if k = true then A else B := by
  cases k
  · exact h2 rfl
  · exact h1 rfl
theorem g_iteD {A B : Prop} {p : Prop} [Decidable p] (h1 : p → A) (h2 : ¬ p → B) : if decide p = true then A else B := by
  by_cases h : p
  · rw [decide_eq_true h]; exact h1 h
  · rw [decide_eq_false h]; exact h2 h
theorem g_iteT {A B : Prop} (h : A) : if true = true then A else B := h
theorem g_iteF {A B : Prop} (h : B) : if false = true then A else B := h
theorem g_iteNT {A B : Prop} (h : B) : if (!true) = true then A else B := h
theorem g_iteNF {A B : Prop} (h : A) : if (!false) = true then A else B := h
theorem g_nil (h : PA [] C) : aNil s C PA := h
theorem g_cons (h : e s C fun x C1 => aa s C1 fun xs C2 => PA (x :: xs) C2) : aCons e aa s C PA := h
theorem g_tup (h : aa s C fun ds C1 => ds.length ≤ sizeLine ∧ P (.tup ds) C1) : aTup aa s C P := h
theorem g_lst (h : aa s C fun ds C1 => ds.length ≤ sizeLine ∧ P (.lst ds) C1) : aLst aa s C P := h
theorem g_lstM (h : aa s C fun ds C1 => ds.length ≤ sizeLine ∧ ∀ p, C1 p = none → P (.ce p) (put C1 p (.lst ds))) : aLstM aa s C P := h
theorem g_call {asp : ASp} (h : aa s C fun ds C1 => asp ds C1 P) : aCall asp aa s C P := h
def kIsi (T : String) (P : D → AH → Prop) : D → AH → Prop := fun x C1 => match kindOf C1 x with | some t => P (.bl (isT T t)) C1 | none => False
theorem g_isi {T : String} (h : e s C (kIsi T P)) : aIsi T e s C P := h
theorem g_kIsiI {T : String} {i : Int} (h : P (.bl (isT T "int")) C) : kIsi T P (.int i) C := h
theorem g_kIsiB {T : String} {i : Bool} (h : P (.bl (isT T "bool")) C) : kIsi T P (.bl i) C := h
theorem g_kIsiN {T : String} (h : P (.bl (isT T "NoneType")) C) : kIsi T P .non C := h
theorem g_kIsiS {T : String} {i : Str} (h : P (.bl (isT T "str")) C) : kIsi T P (.str i) C := h
theorem g_kIsiL {T : String} {i : List D} (h : P (.bl (isT T "list")) C) : kIsi T P (.lst i) C := h
theorem g_kIsiT {T : String} {i : List D} (h : P (.bl (isT T "tuple")) C) : kIsi T P (.tup i) C := h
theorem g_kIsiK {T : String} {i : List (Key × D)} (h : P (.bl (isT T "dict")) C) : kIsi T P (.dk i) C := h
theorem g_kIsi {T t : String} {x : D} (h1 : kindOf C x = some t) (h : P (.bl (isT T t)) C) : kIsi T P x C := by
  unfold kIsi
  rw [h1]
  exact h
theorem g_meth {T : String} {m : D → ASp} (h : e s C fun x C1 => isTy T C1 x = true ∧ aa s C1 fun ds C2 => m x ds C2 P) : aMeth T m e aa s C P := h
theorem g_meth0 {T : String} {m : D → ASp} (h : e s C fun x C1 => isTy T C1 x = true ∧ m x [] C1 P) : aMeth0 T m e s C P := h
theorem g_append {p : Addr} {us : List D} {d : D} (h1 : C p = some (.lst us)) (h2 : us.length < sizeLine) (h : P .non (put C p (.lst (us ++ [d])))) : aAppend (.ce p) [d] C P := by
  unfold aAppend
  show (match C p with | some (.lst us) => us.length < sizeLine ∧ P .non (put C p (.lst (us ++ [d]))) | _ => False)
  rw [h1]
  exact ⟨h2, h⟩
theorem isTy_ce {T : String} {p : Addr} {us : List D} (h1 : C p = some (.lst us)) (h2 : T = "list") : isTy T C (.ce p) = true := by
  subst h2
  simp [isTy, h1]
theorem g_ixL {us : List D} {i : Int} {d : D} (h1 : atI us i = some d) (h : P d C) : aIx (.lst us) (.int i) C P := by
  show (match atI us i with | some d => P d C | none => False)
  rw [h1]; exact h
theorem g_ixT {us : List D} {i : Int} {d : D} (h1 : atI us i = some d) (h : P d C) : aIx (.tup us) (.int i) C P := by
  show (match atI us i with | some d => P d C | none => False)
  rw [h1]; exact h
theorem g_ixL0 {d : D} {us : List D} (h : P d C) : aIx (.lst (d :: us)) (.int 0) C P := g_ixL (atI_nat' (i := 0) rfl) h
theorem g_ixL1 {a d : D} {us : List D} (h : P d C) : aIx (.lst (a :: d :: us)) (.int 1) C P := g_ixL (atI_nat' (i := 1) rfl) h
theorem g_ixL2 {a b d : D} {us : List D} (h : P d C) : aIx (.lst (a :: b :: d :: us)) (.int 2) C P := g_ixL (atI_nat' (i := 2) rfl) h
theorem g_ixT0 {d : D} {us : List D} (h : P d C) : aIx (.tup (d :: us)) (.int 0) C P := g_ixT (atI_nat' (i := 0) rfl) h
theorem g_ixT1 {a d : D} {us : List D} (h : P d C) : aIx (.tup (a :: d :: us)) (.int 1) C P := g_ixT (atI_nat' (i := 1) rfl) h
theorem g_ixT2 {a b d : D} {us : List D} (h : P d C) : aIx (.tup (a :: b :: d :: us)) (.int 2) C P := g_ixT (atI_nat' (i := 2) rfl) h
theorem g_ixT3 {a b c d : D} {us : List D} (h : P d C) : aIx (.tup (a :: b :: c :: d :: us)) (.int 3) C P := g_ixT (atI_nat' (i := 3) rfl) h
theorem g_ixR {ns : List Int} {i : Int} {d : D} (h1 : atI (ns.map D.int) i = some d) (h : P d C) : aIx (.scr ns) (.int i) C P := by
  show (match atI (ns.map D.int) i with | some d => P d C | none => False)
  rw [h1]; exact h
theorem g_ixC {p : Addr} {us : List D} {i : Int} (h0 : C p = some (.lst us)) (h : aIx (.lst us) (.int i) C P) : aIx (.ce p) (.int i) C P := by
  show (match (match C p with | some (.lst us) => some us | _ => none) with | some ds => (match atI ds i with | some d => P d C | none => False) | none => False)
  rw [h0]
  exact h
theorem g_lenL {us : List D} (h : P (.int us.length) C) : aLen [.lst us] C P := h
theorem g_lenT {us : List D} (h : P (.int us.length) C) : aLen [.tup us] C P := h
theorem g_lenR {ns : List Int} (h : P (.int ns.length) C) : aLen [.scr ns] C P := by
  show P (.int (ns.map D.int).length) C
  rw [List.length_map]; exact h
theorem g_lenC {p : Addr} {us : List D} (h0 : C p = some (.lst us)) (h : P (.int us.length) C) : aLen [.ce p] C P := by
  show (match C p with | some (.lst us) => P (.int us.length) C | some (.dk us) => P (.int us.length) C | _ => False)
  rw [h0]; exact h
theorem g_abs {i : Int} (h : P (.int (if i < 0 then -i else i)) C) : aAbs [.int i] C P := h
theorem g_max2 {i j : Int} (h : P (.int (if j > i then j else i)) C) : aMax2 [.int i, .int j] C P := h
theorem g_min2 {i j : Int} (h : P (.int (if j < i then j else i)) C) : aMin2 [.int i, .int j] C P := h
theorem g_intI {i : Int} (h : P (.int i) C) : aInt [.int i] C P := h
theorem g_intB {k : Bool} (h : P (.int (if k then 1 else 0)) C) : aInt [.bl k] C P := h
theorem g_listL {us : List D} (h : P (.lst us) C) : aListOf [.lst us] C P := h
theorem g_listT {us : List D} (h : P (.lst us) C) : aListOf [.tup us] C P := h
theorem g_tupleL {us : List D} (h : P (.tup us) C) : aTupleOf [.lst us] C P := h
theorem g_tupleT {us : List D} (h : P (.tup us) C) : aTupleOf [.tup us] C P := h
theorem g_all {us : List D} {bs : List Bool} (h1 : blsD us = some bs) (h : P (.bl (bs.all id)) C) : aAll [.lst us] C P := by
  show (match (some us).bind blsD with | some bs => P (.bl (bs.all id)) C | none => False)
  rw [Option.bind_some, h1]; exact h
theorem g_sum {us : List D} {bs : List Int} (h1 : intsD us = some bs) (h : P (.int bs.sum) C) : aSum [.lst us] C P := by
  show (match (some us).bind intsD with | some bs => P (.int bs.sum) C | none => False)
  rw [Option.bind_some, h1]; exact h
theorem g_rev {us : List D} (h : P (.lst us.reverse) C) : aRev (.lst us) C P := h
variable {PI : List D → (AH → Prop) → AH → Prop}
def kIL (PI : List D → (AH → Prop) → AH → Prop) : D → AH → Prop := fun x C1 => match asLr C1 x with | some ds => PI ds (fun C' => asLr C' x = some ds) C1 | none => False
theorem g_il (h : e s C (kIL PI)) : aIL e s C PI := h
theorem g_kIL {us : List D} (h : PI us (fun _ => True) C) (e : ∀ C' : AH, asLr C' (.lst us) = some us) (m : (fun _ : AH => True) = fun C' : AH => asLr C' (.lst us) = some us) : kIL PI (.lst us) C := by
  show PI us (fun C' => asLr C' (.lst us) = some us) C
  rw [← m]
  exact h
theorem g_kILl {us : List D} (h : PI us (fun _ => True) C) : kIL PI (.lst us) C := g_kIL h (fun _ => rfl) (by funext C'; simp [asLr, asL])
theorem g_kILr {ns : List Int} (h : PI (ns.map D.int) (fun _ => True) C) : kIL PI (.scr ns) C := by
  show PI (ns.map D.int) (fun C' => asLr C' (.scr ns) = some (ns.map D.int)) C
  have m : (fun _ : AH => True) = fun C' : AH => asLr C' (.scr ns) = some (ns.map D.int) := by funext C'; simp [asLr]
  rw [← m]
  exact h
def kIT (PI : List D → (AH → Prop) → AH → Prop) : D → AH → Prop := fun x C1 => match asT x with | some ds => PI ds (fun _ => True) C1 | none => False
theorem g_it (h : e s C (kIT PI)) : aIT e s C PI := h
theorem g_kIT {us : List D} (h : PI us (fun _ => True) C) : kIT PI (.tup us) C := h
def kIS (PI : List D → (AH → Prop) → AH → Prop) : D → AH → Prop := fun x C1 => match x with | .str z => PI (signs z) (fun _ => True) C1 | _ => False
theorem g_is' (h : e s C (kIS PI)) : aIS e s C PI := h
theorem g_kIS {z : Str} (h : PI (signs z) (fun _ => True) C) : kIS PI (.str z) C := h
def kIR1 (PI : List D → (AH → Prop) → AH → Prop) : List D → AH → Prop := fun ds C1 => match ds with | [.int j] => -(2 ^ 62) ≤ j ∧ j < 2 ^ 62 ∧ PI (rangeD 0 j.toNat) (fun _ => True) C1 | _ => False
theorem g_ir1 (h : aa s C (kIR1 PI)) : aIR1 aa s C PI := h
theorem g_kIR1 {j : Int} (h1 : -(2 ^ 62) ≤ j) (h2 : j < 2 ^ 62) (h : PI (rangeD 0 j.toNat) (fun _ => True) C) : kIR1 PI [.int j] C := ⟨h1, h2, h⟩
def kIR2 (PI : List D → (AH → Prop) → AH → Prop) : List D → AH → Prop := fun ds C1 => match ds with | [.int i, .int j] => (-(2 ^ 62) ≤ i ∧ i < 2 ^ 62 ∧ -(2 ^ 62) ≤ j ∧ j < 2 ^ 62) ∧ PI (rangeD i (j - i).toNat) (fun _ => True) C1 | _ => False
theorem g_ir2 (h : aa s C (kIR2 PI)) : aIR2 aa s C PI := h
theorem g_kIR2 {i j : Int} (h1 : -(2 ^ 62) ≤ i ∧ i < 2 ^ 62 ∧ -(2 ^ 62) ≤ j ∧ j < 2 ^ 62) (h : PI (rangeD i (j - i).toNat) (fun _ => True) C) : kIR2 PI [.int i, .int j] C := ⟨h1, h⟩
def kIE (PI : List D → (AH → Prop) → AH → Prop) : List D → AH → Prop := fun us C1 => match us with | [x] => (match asLr C1 x with | some ds => PI (enumD ds) (fun C' => asLr C' x = some ds) C1 | none => False) | _ => False
theorem g_ie (h : aa s C (kIE PI)) : aIE aa s C PI := h
theorem g_kIE {us : List D} (h : PI (enumD us) (fun _ => True) C) : kIE PI [.lst us] C := by
  show PI (enumD us) (fun C' => asLr C' (.lst us) = some us) C
  have m : (fun _ : AH => True) = fun C' : AH => asLr C' (.lst us) = some us := by funext C'; simp [asLr, asL]
  rw [← m]
  exact h
def kIZ (PI : List D → (AH → Prop) → AH → Prop) : List D → AH → Prop := fun us C1 => match us with | [x, y] => (match asLr C1 x, asLr C1 y with | some ds, some es => PI (zipD ds es) (fun C' => asLr C' x = some ds ∧ asLr C' y = some es) C1 | _, _ => False) | _ => False
theorem g_iz (h : aa s C (kIZ PI)) : aIZ aa s C PI := h
theorem g_kIZ {us ws : List D} (h : PI (zipD us ws) (fun _ => True) C) : kIZ PI [.lst us, .lst ws] C := by
  show PI (zipD us ws) (fun C' => asLr C' (.lst us) = some us ∧ asLr C' (.lst ws) = some ws) C
  have m : (fun _ : AH => True) = fun C' : AH => asLr C' (.lst us) = some us ∧ asLr C' (.lst ws) = some ws := by funext C'; simp [asLr, asL]
  rw [← m]
  exact h
/-- a loop whose items are known -/
def kFor (g : AG') (ab : AS') (nx : ASt → AH → Prop) (rt : D → AH → Prop) (s : ASt) : List D → (AH → Prop) → AH → Prop := fun items hold C => ∃ W : Nat → ASt → AH → Prop, W 0 s C ∧ (∀ i s' C', i ≤ items.length → W i s' C' → hold C') ∧
  (∀ i d s' C', items[i]? = some d → W i s' C' → g d s' C' fun s2 C2 => ab ⟨W (i + 1), rt, nx, W (i + 1)⟩ s2 C2) ∧ ∀ s' C', W items.length s' C' → nx s' C'
theorem g_for {ab : AS'} (h : w s C (kFor g ab nx rt s)) : aFor w g ab ⟨nx, rt, bk, ct⟩ s C := h
theorem g_kFor {ab : AS'} {items : List D} (W : Nat → ASt → AH → Prop) (h0 : W 0 s C)
    (hs : ∀ i d s' C', items[i]? = some d → W i s' C' → g d s' C' fun s2 C2 => ab ⟨W (i + 1), rt, nx, W (i + 1)⟩ s2 C2) (hd : ∀ s' C', W items.length s' C' → nx s' C') : kFor g ab nx rt s items (fun _ => True) C :=
  ⟨W, h0, fun _ _ _ _ _ => trivial, hs, hd⟩
theorem g_kForH {ab : AS'} {items : List D} {hold : AH → Prop} (W : Nat → ASt → AH → Prop) (h0 : W 0 s C) (hh : ∀ i s' C', i ≤ items.length → W i s' C' → hold C')
    (hs : ∀ i d s' C', items[i]? = some d → W i s' C' → g d s' C' fun s2 C2 => ab ⟨W (i + 1), rt, nx, W (i + 1)⟩ s2 C2) (hd : ∀ s' C', W items.length s' C' → nx s' C') : kFor g ab nx rt s items hold C :=
  ⟨W, h0, hh, hs, hd⟩
/-- over a range -/
theorem g_kForR {ab : AS'} {lo : Int} {n j : Nat} (W : Nat → ASt → AH → Prop) (h0 : W 0 s C)
    (hs : ∀ (i : Nat) s' C', i < n → W i s' C' → ab ⟨W (i + 1), rt, nx, W (i + 1)⟩ (s'.set j (some (.int (lo + i)))) C') (hd : ∀ s' C', W n s' C' → nx s' C') : kFor (aGName j) ab nx rt s (rangeD lo n) (fun _ => True) C := by
  refine g_kFor W h0 (fun i d s' C' hi hw => ?_) (fun s' C' hw => hd s' C' (by rw [rangeD_len] at hw; exact hw))
  have hl : i < n := by
    have := (List.getElem?_eq_some_iff.mp hi).1
    rw [rangeD_len] at this
    exact this
  rw [rangeD_get hl] at hi
  cases hi
  exact hs i s' C' hl hw
theorem g_kForR0 {ab : AS'} {n j : Nat} (W : Nat → ASt → AH → Prop) (h0 : W 0 s C)
    (hs : ∀ (i : Nat) s' C', i < n → W i s' C' → ab ⟨W (i + 1), rt, nx, W (i + 1)⟩ (s'.set j (some (.int (i : Int)))) C') (hd : ∀ s' C', W n s' C' → nx s' C') : kFor (aGName j) ab nx rt s (rangeD 0 n) (fun _ => True) C :=
  g_kForR W h0 (fun i s' C' hi w => by rw [Int.zero_add]; exact hs i s' C' hi w) hd
/-- over a list of which something is known of each item -/
theorem g_kForL {ab : AS'} {items : List D} {j : Nat} (W : Nat → ASt → AH → Prop) (h0 : W 0 s C)
    (hs : ∀ (i : Nat) d s' C', items[i]? = some d → W i s' C' → ab ⟨W (i + 1), rt, nx, W (i + 1)⟩ (s'.set j (some d)) C') (hd : ∀ s' C', W items.length s' C' → nx s' C') : kFor (aGName j) ab nx rt s items (fun _ => True) C := g_kFor W h0 hs hd
theorem g_while {t : AT'} {ab : AS'} (W : Nat → ASt → AH → Prop) (m : Nat) (h0 : W m s C) (hs : ∀ m s' C', W m s' C' → t s' C' fun k C1 => if k = true then ab ⟨fun s2 C2 => ∃ m', m' < m ∧ W m' s2 C2, rt, nx, fun s2 C2 => ∃ m', m' < m ∧ W m' s2 C2⟩ s' C1 else nx s' C1) : aWhile t ab ⟨nx, rt, bk, ct⟩ s C := ⟨W, ⟨m, h0⟩, hs⟩
def kLc (g : AG') (t : AT') (e : AE') (vs : List Nat) (fin : List D → AH → Prop) (s : ASt) : List D → (AH → Prop) → AH → Prop := fun items hold C1 => items.length ≤ sizeLine ∧ ∃ W : Nat → List D → AH → Prop, W 0 [] C1 ∧ (∀ i acc C', i ≤ items.length → W i acc C' → hold C') ∧
  (∀ i d acc C', items[i]? = some d → W i acc C' → g d (wipeA s vs) C' fun s2 C2 => t s2 C2 fun b C3 => if b = true then e s2 C3 fun y C4 => W (i + 1) (acc ++ [y]) C4 else W (i + 1) acc C3) ∧ ∀ acc C', W items.length acc C' → fin acc C'
theorem g_lc {t : AT'} {vs : List Nat} (h : w s C (kLc g t e vs (fun acc C' => P (.lst acc) C') s)) : aLc w g t e vs s C P := h
theorem g_lcM {t : AT'} {vs : List Nat} (h : w s C (kLc g t e vs (fun acc C' => ∀ p, C' p = none → P (.ce p) (put C' p (.lst acc))) s)) : aLcM w g t e vs s C P := h
theorem g_kLc {t : AT'} {vs : List Nat} {fin : List D → AH → Prop} {items : List D} (W : Nat → List D → AH → Prop) (hl : items.length ≤ sizeLine) (h0 : W 0 [] C)
    (hs : ∀ i d acc C', items[i]? = some d → W i acc C' → g d (wipeA s vs) C' fun s2 C2 => t s2 C2 fun b C3 => if b = true then e s2 C3 fun y C4 => W (i + 1) (acc ++ [y]) C4 else W (i + 1) acc C3) (hd : ∀ acc C', W items.length acc C' → fin acc C') : kLc g t e vs fin s items (fun _ => True) C :=
  ⟨hl, W, h0, fun _ _ _ _ _ => trivial, hs, hd⟩
/-- [f x for x in items], each as it stands, the cells stay -/
theorem g_kLcMap {vs : List Nat} {fin : List D → AH → Prop} {items : List D} {j : Nat} (f : D → D) (hl : items.length ≤ sizeLine) (hs : ∀ d, d ∈ items → ∀ R : D → AH → Prop, R (f d) C → e ((wipeA s vs).set j (some d)) C R) (hd : fin (items.map f) C) : kLc (aGName j) aYes e vs fin s items (fun _ => True) C := by
  refine g_kLc (fun i acc C' => acc = (items.take i).map f ∧ C' = C) hl ⟨rfl, rfl⟩ (fun i d acc C' hi hw => ?_) (fun acc C' hw => ?_)
  · obtain ⟨rfl, rfl⟩ := hw
    refine hs d (List.mem_of_getElem? hi) _ ⟨?_, rfl⟩
    rw [List.take_add_one, hi, List.map_append]
    rfl
  · obtain ⟨rfl, rfl⟩ := hw
    rw [List.take_length]
    exact hd
end
theorem g_sz {n : Nat} {A : Prop} (h1 : n ≤ sizeLine) (h : A) : n ≤ sizeLine ∧ A := ⟨h1, h⟩
theorem g_ty {T : String} {C : AH} {d : D} {A : Prop} (h1 : isTy T C d = true) (h : A) : isTy T C d = true ∧ A := ⟨h1, h⟩
theorem ne_cell {C : AH} {p q : Addr} {c : Cell} (h : C p = some c) (g : C q = none) : p ≠ q := fun z => by rw [z, g] at h; cases h
theorem put_other {C : AH} {p q : Addr} {o : Option Cell} {d : Cell} (hn : p ≠ q) (h : C p = o) : put C q d p = o := by rw [put_ne hn]; exact h
theorem del_other {C : AH} {p q : Addr} {o : Option Cell} (hn : p ≠ q) (h : C p = o) : del C q p = o := by unfold del; rw [if_neg hn]; exact h
theorem del_same {C : AH} {p : Addr} : del C p p = none := by unfold del; rw [if_pos rfl]
end AL
namespace AL
open PySem L2
mutual
def okD : D → Nat → Bool
  | .non, _ => true
  | .bl _, _ => true
  | .int _, _ => true
  | .str x, _ => x.cps.all (· < 0x110000)
  | .lst ds, n + 1 => okL ds n
  | .tup ds, n + 1 => okL ds n
  | _, _ => false
def okL : List D → Nat → Bool
  | [], _ => true
  | d :: ds, n => okD d n && okL ds n
end
theorem okL_all {ds : List D} {n : Nat} : okL ds n = true ↔ ∀ d ∈ ds, okD d n = true := by
  induction ds with
  | nil => simp [okL]
  | cons d ds ih => simp [okL, ih]
mutual
theorem okD_pd : ∀ (d : D) (n : Nat), okD d n = true → ∃ x, d.pd = some x ∧ x.canLay0 = true ∧ x.depth ≤ n
  | .non, n, _ => ⟨.none, by simp [D.pd], by simp [PyData.canLay0], by simp [PyData.depth]⟩
  | .bl b, n, _ => ⟨.bool b, by simp [D.pd], by simp [PyData.canLay0], by simp [PyData.depth]⟩
  | .int i, n, _ => ⟨.int i, by simp [D.pd], by simp [PyData.canLay0], by simp [PyData.depth]⟩
  | .str x, n, h => ⟨.str x, by simp [D.pd], by simpa [PyData.canLay0, PyData.strOk, okD] using h, by simp [PyData.depth]⟩
  | .lst ds, 0, h => by simp [okD] at h
  | .lst ds, n + 1, h => by
    obtain ⟨xs, h1, h2, h3⟩ := okL_pd ds n (by simpa [okD] using h)
    exact ⟨.list xs, by simp [D.pd, h1], by simpa [PyData.canLay0] using h2, by simp [PyData.depth]; omega⟩
  | .tup ds, 0, h => by simp [okD] at h
  | .tup ds, n + 1, h => by
    obtain ⟨xs, h1, h2, h3⟩ := okL_pd ds n (by simpa [okD] using h)
    exact ⟨.tuple xs, by simp [D.pd, h1], by simpa [PyData.canLay0] using h2, by simp [PyData.depth]; omega⟩
  | .dk _, _, h => by simp [okD] at h
  | .scr _, _, h => by simp [okD] at h
  | .ce _, _, h => by simp [okD] at h
theorem okL_pd : ∀ (ds : List D) (n : Nat), okL ds n = true → ∃ xs, pdL ds = some xs ∧ PyData.canLayAll0 xs = true ∧ PyData.depthAll xs ≤ n
  | [], n, _ => ⟨[], by simp [pdL], by simp [PyData.canLayAll0], by simp [PyData.depthAll]⟩
  | d :: ds, n, h => by
    simp only [okL, Bool.and_eq_true] at h
    obtain ⟨x, a1, a2, a3⟩ := okD_pd d n h.1
    obtain ⟨xs, b1, b2, b3⟩ := okL_pd ds n h.2
    exact ⟨x :: xs, by simp [pdL, a1, b1], by simp [PyData.canLayAll0, a2, b2], by simp [PyData.depthAll]; omega⟩
end
theorem okD_shaped {d : D} {n : Nat} (h : okD d n = true) (hn : n ≤ 64) : ∃ x, d.pd = some x ∧ SeqAt.shaped x = true ∧ PyData.eqv x x = true := by
  obtain ⟨x, h1, h2, h3⟩ := okD_pd d n h
  refine ⟨x, h1, ?_, SeqAt.eqv_refl x h2⟩
  unfold SeqAt.shaped
  rw [h2, decide_eq_true (show x.depth ≤ 64 by omega)]
  rfl
theorem eqS_self {d : D} {b : Bool} (h : eqS d d = some b) : b = true := by
  cases d <;> simp [eqS] at h <;> exact h
theorem pdC_ok' {C : AH} {d : D} {n : Nat} (h : okD d n = true) : pdC C d = d.pd := by
  cases d <;> first | rfl | (simp [okD] at h)
theorem g_neR {C : AH} {d : D} {P : D → AH → Prop} (n : Nat) (h : okD d n = true) (hn : n ≤ 64) (k : P (.bl false) C) : aNe d d C P := by
  unfold aNe aEqN
  split
  · rename_i b e
    rw [eqS_self e]
    exact k
  · obtain ⟨x, h1, h2, h3⟩ := okD_shaped h hn
    exact ⟨x, x, (pdC_ok' h).trans h1, (pdC_ok' h).trans h1, h2, h2, by rw [h3]; exact k⟩
theorem okD_lst {ds : List D} {n : Nat} (h : ∀ d ∈ ds, okD d n = true) : okD (.lst ds) (n + 1) = true := by
  simp only [okD]; exact okL_all.mpr h
theorem okD_tup {ds : List D} {n : Nat} (h : ∀ d ∈ ds, okD d n = true) : okD (.tup ds) (n + 1) = true := by
  simp only [okD]; exact okL_all.mpr h
def oD : Option Nat → D
  | none => .non
  | some n => .int (n : Int)
@[simp] theorem okD_oD (o : Option Nat) (n : Nat) : okD (oD o) n = true := by cases o <;> simp [oD, okD]
/-- a machine as a tree -/
abbrev goesD (goes : List (List (Option Nat))) : D := .lst (goes.map fun r => .lst (r.map oD))
abbrev endsD (ends : List Bool) : D := .lst (ends.map .bl)
abbrev machD (ends : List Bool) (goes : List (List (Option Nat))) : D := .tup [endsD ends, goesD goes]
theorem okD_goes (goes : List (List (Option Nat))) (n : Nat) : okD (goesD goes) (n + 2) = true := by
  refine okD_lst fun d hd => ?_
  obtain ⟨r, _, rfl⟩ := List.mem_map.mp hd
  refine okD_lst fun d hd => ?_
  obtain ⟨o, _, rfl⟩ := List.mem_map.mp hd
  exact okD_oD o n
theorem okD_ends (ends : List Bool) (n : Nat) : okD (endsD ends) (n + 1) = true := by
  refine okD_lst fun d hd => ?_
  obtain ⟨r, _, rfl⟩ := List.mem_map.mp hd
  simp [okD]
theorem okD_mach (ends : List Bool) (goes : List (List (Option Nat))) (n : Nat) : okD (machD ends goes) (n + 3) = true := by
  refine okD_tup fun d hd => ?_
  simp only [List.mem_cons, List.not_mem_nil, or_false] at hd
  rcases hd with rfl | rfl
  · exact okD_ends ends (n + 1)
  · exact okD_goes goes n
/-- sg signs; every stand that is led to is there -/
structure Mach (sg : Nat) (ends : List Bool) (goes : List (List (Option Nat))) : Prop where
  len : ends.length = goes.length
  pos : 0 < ends.length
  most : ends.length ≤ 1000
  row : ∀ r ∈ goes, r.length = sg
  go : ∀ r ∈ goes, ∀ t, some t ∈ r → t < ends.length
def stepO (goes : List (List (Option Nat))) (s : Option Nat) (n : Nat) : Option Nat := match s with
  | none => none
  | some t => match goes[t]? with
    | some r => (match r[n]? with | some o => o | none => none)
    | none => none
def runO (goes : List (List (Option Nat))) (s : Option Nat) (row : List Nat) : Option Nat := row.foldl (stepO goes) s
def inn (n : Nat) (s : Option Nat) : Prop := ∀ t, s = some t → t < n
theorem Mach.step {sg : Nat} {ends : List Bool} {goes : List (List (Option Nat))} (M : Mach sg ends goes) {s : Option Nat} {n : Nat} (hs : inn ends.length s) (hn : n < sg) : inn ends.length (stepO goes s n) := by
  intro t ht
  cases s with
  | none => cases ht
  | some u =>
    have hu := hs u rfl
    have hu' : u < goes.length := by rw [← M.len]; exact hu
    have hr := M.row goes[u] (List.getElem_mem hu')
    simp only [stepO, List.getElem?_eq_getElem hu', List.getElem?_eq_getElem (show n < goes[u].length by rw [hr]; exact hn)] at ht
    exact M.go goes[u] (List.getElem_mem hu') t (by rw [← ht]; exact List.getElem_mem _)
theorem Mach.run {sg : Nat} {ends : List Bool} {goes : List (List (Option Nat))} (M : Mach sg ends goes) : ∀ (row : List Nat) {s : Option Nat}, inn ends.length s → (∀ n ∈ row, n < sg) → inn ends.length (runO goes s row)
  | [], _, hs, _ => hs
  | n :: row, _, hs, hr => M.run row (M.step hs (hr n (List.mem_cons_self))) fun k hk => hr k (List.mem_cons_of_mem _ hk)
section
variable {sg : Nat} {ends : List Bool} {goes : List (List (Option Nat))} {C : AH} {P : D → AH → Prop}
theorem get_go (M : Mach sg ends goes) {u n : Nat} (hu : u < ends.length) (hn : n < sg) (h : ∀ r, goes[u]? = some r → r.length = sg → P (.lst (r.map oD)) C) : aIx (goesD goes) (.int (u : Int)) C P := by
  have hu' : u < goes.length := by rw [← M.len]; exact hu
  refine g_ixL (d := .lst (goes[u].map oD)) (atI_nat' ?_) (h goes[u] (List.getElem?_eq_getElem hu') (M.row _ (List.getElem_mem hu')))
  rw [List.getElem?_map, List.getElem?_eq_getElem hu']
  rfl
theorem get_in {r : List (Option Nat)} {n : Nat} (hn : n < r.length) (h : P (oD r[n]) C) : aIx (.lst (r.map oD)) (.int (n : Int)) C P := by
  refine g_ixL (atI_nat' ?_) h
  rw [List.getElem?_map, List.getElem?_eq_getElem hn]
  rfl
theorem get_end {u : Nat} (hu : u < ends.length) (h : P (.bl ends[u]) C) : aIx (endsD ends) (.int (u : Int)) C P := by
  refine g_ixL (atI_nat' ?_) h
  rw [List.getElem?_map, List.getElem?_eq_getElem hu]
  rfl
end
theorem stepO_some {goes : List (List (Option Nat))} {u n : Nat} {r : List (Option Nat)} (h : goes[u]? = some r) (hn : n < r.length) : stepO goes (some u) n = r[n] := by
  simp only [stepO, h, List.getElem?_eq_getElem hn]
end AL
namespace AL
open PySem L2
abbrev natsD (row : List Nat) : List D := row.map fun (n : Nat) => D.int (n : Int)
theorem natsD_get {row : List Nat} {i : Nat} {d : D} (h : (natsD row)[i]? = some d) : ∃ hi : i < row.length, d = .int (row[i] : Nat) := by
  unfold natsD at h
  rw [List.getElem?_map] at h
  cases q : row[i]? with
  | none => rw [q] at h; cases h
  | some n =>
    rw [q] at h
    obtain ⟨hi, e⟩ := List.getElem?_eq_some_iff.mp q
    cases h
    exact ⟨hi, by rw [e]⟩
@[simp] theorem natsD_len (row : List Nat) : (natsD row).length = row.length := by unfold natsD; rw [List.length_map]
theorem runO_take {goes : List (List (Option Nat))} {s : Option Nat} {row : List Nat} {i : Nat} (hi : i < row.length) : runO goes s (row.take (i + 1)) = stepO goes (runO goes s (row.take i)) row[i] := by
  unfold runO
  rw [List.take_add_one, List.getElem?_eq_getElem hi, List.foldl_append]
  rfl
theorem okD_nats (row : List Nat) (n : Nat) : okD (.lst (natsD row)) (n + 1) = true := by
  refine okD_lst fun d hd => ?_
  obtain ⟨r, _, rfl⟩ := List.mem_map.mp hd
  simp [okD]
theorem enumD_inv {ds : List D} {i : Nat} {d : D} (h : (enumD ds)[i]? = some d) : ∃ x, ds[i]? = some x ∧ d = .tup [.int i, x] := by
  have hi := (List.getElem?_eq_some_iff.mp h).1
  rw [enumD_len] at hi
  refine ⟨ds[i], List.getElem?_eq_getElem hi, ?_⟩
  rw [enumD_get (List.getElem?_eq_getElem hi)] at h
  cases h
  rfl
end AL
namespace AL
open PySem PySem.Spec L2
variable {B : Bs}
def keyOf : D → Option Key
  | .int i => some (.inl i)
  | .str x => some (.inr x)
  | _ => none
def valD (es : List (Key × D)) (k : Key) : Option D := (es.find? fun kv => decide (kv.1 = k)).map (·.2)
def putD (es : List (Key × D)) (k : Key) (d : D) : List (Key × D) :=
  if (es.any fun kv => decide (kv.1 = k)) = true then es.map (fun kv => if kv.1 = k then (kv.1, d) else kv) else es ++ [(k, d)]
def asK (C : AH) : D → Option (List (Key × D))
  | .dk es => some es
  | .ce p => (match C p with | some (.dk es) => some es | _ => none)
  | _ => none
section
variable {K : PySem.W.Frag} {F F' : Hp} {C : AH} {R H : Hp}
theorem keyOf_ok {v : V} {d : D} {k : Key} (r : Rep K F v d) (h : keyOf d = some k) : v = kV k := by
  cases r <;> simp [keyOf] at h <;> subst h <;> rfl
theorem RepK.val (k : Key) : ∀ {vs : List (Key × V)} {ds : List (Key × D)}, RepK K F vs ds → (match valD ds k with | some d => ∃ v, valV vs k = some v ∧ Rep K F v d | none => valV vs k = none)
  | _, _, .nil => rfl
  | (j, v) :: vs, (_, d) :: ds, .cons r t => by
    have ih := RepK.val k t
    unfold valD valV at ih ⊢
    by_cases e : j = k
    · subst e
      simp only [List.find?_cons, decide_true, Option.map_some]
      exact ⟨v, rfl, r⟩
    · simp only [List.find?_cons, decide_eq_false e]
      exact ih
theorem RepK.any (k : Key) : ∀ {vs : List (Key × V)} {ds : List (Key × D)}, RepK K F vs ds → (vs.any fun kv => decide (kv.1 = k)) = ds.any fun kv => decide (kv.1 = k)
  | _, _, .nil => rfl
  | _, _, .cons r t => by rw [List.any_cons, List.any_cons, RepK.any k t]
theorem RepK.repl (k : Key) {v : V} {d : D} (r : Rep K F v d) : ∀ {vs : List (Key × V)} {ds : List (Key × D)}, RepK K F vs ds → RepK K F (vs.map fun kv => if kv.1 = k then (kv.1, v) else kv) (ds.map fun kv => if kv.1 = k then (kv.1, d) else kv)
  | _, _, .nil => .nil
  | (j, _) :: _, _, .cons q t => by
    rw [List.map_cons, List.map_cons]
    by_cases e : j = k
    · rw [if_pos e, if_pos e]; exact .cons r (RepK.repl k r t)
    · rw [if_neg e, if_neg e]; exact .cons q (RepK.repl k r t)
theorem RepK.snoc (k : Key) {v : V} {d : D} (r : Rep K F v d) : ∀ {vs : List (Key × V)} {ds : List (Key × D)}, RepK K F vs ds → RepK K F (vs ++ [(k, v)]) (ds ++ [(k, d)])
  | _, _, .nil => .cons r .nil
  | _, _, .cons q t => .cons q (RepK.snoc k r t)
theorem RepK.put (k : Key) {v : V} {d : D} (r : Rep K F v d) {vs : List (Key × V)} {ds : List (Key × D)} (h : RepK K F vs ds) : RepK K F (putK vs k v) (putD ds k d) := by
  unfold putK putD
  rw [RepK.any k h]
  split
  · exact RepK.repl k r h
  · exact RepK.snoc k r h
theorem asK_ok {v : V} {d : D} {es : List (Key × D)} (hS : Sat B K F C R H) (r : Rep K F v d) (h : asK C d = some es) : ∃ a kvs, v = .ref a ∧ H a = some (.dK kvs) ∧ RepK K F kvs es := by
  cases d with
  | dk e =>
    cases h
    cases r with
    | dk h1 h2 => exact ⟨_, _, rfl, hS.ex _ _ h1, h2⟩
  | ce p =>
    cases r
    have h : (match C p with | some (.dk es) => some es | _ => none) = some es := h
    cases q : C p with
    | none => rw [q] at h; cases h
    | some c =>
      rw [q] at h
      obtain ⟨_, o, h1, h2⟩ := hS.cell p c q
      cases c with
      | dk e =>
        cases h
        cases h2 with
        | dk h3 => exact ⟨p, _, rfl, h1, h3⟩
      | _ => cases h
  | _ => cases h
end
/-- d[k] -/
def aGetK (o i : AE') : AE' := fun s C P => o s C fun x C1 => i s C1 fun y C2 => match asK C2 x, keyOf y with
  | some es, some k => (match valD es k with | some d => P d C2 | none => False)
  | _, _ => False
theorem sim_getK {K : PySem.W.Frag} {to ti : TE} {ao ai : AE'} (ho : SimE B K to ao) (hi : SimE B K ti ai) : SimE B K (tDGet to ti) (aGetK ao ai) := by
  intro σ s F C R H Q P hs hS h k
  refine ho σ s F C R H _ _ hs hS h fun x v F1 C1 H1 e1 S1 r1 h1 => ?_
  refine hi σ s F1 C1 R H1 _ _ (hs.mono e1) S1 h1 fun y w F2 C2 H2 e2 S2 r2 h2 => ?_
  split at h2
  · rename_i es ky q1 q2
    split at h2
    · rename_i d q3
      obtain ⟨a, kvs, rfl, h3, h4⟩ := asK_ok S2 (r1.mono e2) q1
      have h5 := RepK.val ky h4
      rw [q3] at h5
      obtain ⟨u, h6, h7⟩ := h5
      refine ⟨a, u, rfl, ?_, k _ _ F2 C2 H2 (e1.trans e2) S2 h7 h2⟩
      rw [keyOf_ok r2 q2, ← h6]
      exact .k h3
    · exact h2.elim
  · exact h2.elim
theorem ae_getK {X : Cx} {pos : Pos} {o i : Expr} {to ti : TE} {ao ai : AE'} (hu : X.A.units + 1 < cLine) (ho : AE B X o to ao) (hi : AE B X i ti ai) (hs : NoSl i := by exact fun _ _ => rfl) : AE B X (.Subscript o i pos) (tDGet to ti) (aGetK ao ai) :=
  ⟨pe_dget hu ho.pe hi.pe hs, sim_getK ho.sim hi.sim⟩
/-- k in d -/
def aInK (neg : Bool) (i o : AE') : AE' := fun s C P => i s C fun y C1 => o s C1 fun x C2 => match asK C2 x, keyOf y with
  | some es, some k => P (.bl (if neg then !(valD es k).isSome else (valD es k).isSome)) C2
  | _, _ => False
theorem valK_some {K : PySem.W.Frag} {F : Hp} {k : Key} {vs : List (Key × V)} {ds : List (Key × D)} (h : RepK K F vs ds) : (valV vs k).isSome = (valD ds k).isSome := by
  have := RepK.val k h
  cases q : valD ds k with
  | none => rw [q] at this; rw [show valV vs k = none from this]; rfl
  | some d => rw [q] at this; obtain ⟨v, e, _⟩ := this; rw [e]; rfl
theorem sim_inK {K : PySem.W.Frag} {to ti : TE} {ao ai : AE'} (ho : SimE B K to ao) (hi : SimE B K ti ai) : SimE B K (tDIn ti to) (aInK false ai ao) := by
  intro σ s F C R H Q P hs hS h k
  refine hi σ s F C R H _ _ hs hS h fun y v F1 C1 H1 e1 S1 r1 h1 => ?_
  refine ho σ s F1 C1 R H1 _ _ (hs.mono e1) S1 h1 fun x w F2 C2 H2 e2 S2 r2 h2 => ?_
  split at h2
  · rename_i es ky q1 q2
    obtain ⟨a, kvs, rfl, h3, h4⟩ := asK_ok S2 r2 q1
    refine ⟨a, valV kvs ky, rfl, ?_, ?_⟩
    · rw [keyOf_ok r1 q2]; exact .k h3
    · rw [valK_some h4]
      exact k _ _ F2 C2 H2 (e1.trans e2) S2 (.bl _) h2
  · exact h2.elim
theorem sim_notInK {K : PySem.W.Frag} {to ti : TE} {ao ai : AE'} (ho : SimE B K to ao) (hi : SimE B K ti ai) : SimE B K (tDNotIn ti to) (aInK true ai ao) := by
  intro σ s F C R H Q P hs hS h k
  refine hi σ s F C R H _ _ hs hS h fun y v F1 C1 H1 e1 S1 r1 h1 => ?_
  refine ho σ s F1 C1 R H1 _ _ (hs.mono e1) S1 h1 fun x w F2 C2 H2 e2 S2 r2 h2 => ?_
  split at h2
  · rename_i es ky q1 q2
    obtain ⟨a, kvs, rfl, h3, h4⟩ := asK_ok S2 r2 q1
    refine ⟨a, valV kvs ky, rfl, ?_, ?_⟩
    · rw [keyOf_ok r1 q2]; exact .k h3
    · rw [valK_some h4]
      exact k _ _ F2 C2 H2 (e1.trans e2) S2 (.bl _) h2
  · exact h2.elim
section
variable {X : Cx} {pos : Pos} {o i e : Expr} {to ti te : TE} {ao ai a : AE'}
theorem ae_inK (hu : X.A.units + 1 < cLine) (hi : AE B X i ti ai) (ho : AE B X o to ao) (h1 : behindInMarks .In o = false := by rfl) : AE B X (.Compare i [.In] [o] pos) (tDIn ti to) (aInK false ai ao) :=
  ⟨pe_cmp (pc_din hu hi.pe ho.pe) h1, sim_inK ho.sim hi.sim⟩
theorem at_notInK (hu : X.A.units + 1 < cLine) (hi : AE B X i ti ai) (ho : AE B X o to ao) (h1 : behindInMarks .NotIn o = false := by rfl) : AT B X (.Compare i [.NotIn] [o] pos) (tTest (tDNotIn ti to)) (aB (aInK true ai ao)) :=
  ⟨pt_cmp (pc_dnotin hu hi.pe ho.pe) h1, sim_B (sim_notInK ho.sim hi.sim)⟩
/-- d[k] = e -/
def aPutK (o i e : AE') : AS' := fun E s C => e s C fun d C1 => o s C1 fun x C2 => i s C2 fun y C3 => match x, keyOf y with
  | .ce p, some k => (match C3 p with | some (.dk es) => es.length < sizeLine ∧ E.nx s (put C3 p (.dk (putD es k d))) | _ => False)
  | _, _ => False
theorem sim_putK {K : PySem.W.Frag} (ho : SimE B K to ao) (hi : SimE B K ti ai) (he : SimE B K te a) : SimS B K (sDPut to ti te) (aPutK ao ai a) := fun D' E σ s F C R H hE hs hS h => by
  refine he σ s F C R H _ _ hs hS h fun d v F1 C1 H1 e1 S1 r1 h1 => ?_
  refine ho σ s F1 C1 R H1 _ _ (hs.mono e1) S1 h1 fun x w F2 C2 H2 e2 S2 r2 h2 => ?_
  refine hi σ s F2 C2 R H2 _ _ (hs.mono (e1.trans e2)) S2 h2 fun y u F3 C3 H3 e3 S3 r3 h3 => ?_
  split at h3
  · rename_i p ky q1
    cases r2
    split at h3
    · rename_i es q2
      obtain ⟨hl, h3⟩ := h3
      obtain ⟨hF, ob, h4, h5⟩ := S3.cell p _ q2
      cases h5 with
      | dk h6 =>
        refine ⟨p, _, rfl, ?_, hE.nx s σ F3 _ _ ((e1.trans e2).trans e3) (hs.mono ((e1.trans e2).trans e3)) (S3.mutC q2 (.dk (RepK.put ky (r1.mono (e2.trans e3)) h6))) h3⟩
        rw [keyOf_ok r3 q1]
        exact .k h4 (by rw [h6.length]; exact hl)
    · exact h3.elim
  · exact h3.elim
theorem as_putK {p2 : Pos} (hu : X.A.units + 1 < cLine) (ho : AE B X o to ao) (hi : AE B X i ti ai) (he : AE B X e te a) (hs : swapsWith e (some (.Subscript o i p2)) pos.line X.env = pure false := by rfl) : AS B X (.Assign [.Subscript o i p2] e pos) (sDPut to ti te) (aPutK ao ai a) :=
  ⟨ps_dput hu ho.pe hi.pe he.pe hs, sim_putK ho.sim hi.sim he.sim⟩
end
/-- {k: e, ..}, the keys written -/
def aPairs : List (Key × AE') → ASt → AH → (List (Key × D) → AH → Prop) → Prop
  | [], _, C, P => P [] C
  | (k, a) :: r, s, C, P => a s C fun d C1 => aPairs r s C1 fun es C2 => P ((k, d) :: es) C2
def mergeD (es more : List (Key × D)) : List (Key × D) := more.foldl (fun acc kv => putD acc kv.1 kv.2) es
def aDisp (l : List (Key × AE')) : AE' := fun s C P => aPairs l s C fun es C1 => es.length ≤ 15 ∧ ∀ p, C1 p = none → P (.ce p) (put C1 p (.dk (mergeD [] es)))
def SimPs (B : Bs) (K : PySem.W.Frag) (trs : List (TE × TE)) (l : List (Key × AE')) : Prop := ∀ (σ : L2.St) (s : ASt) (F : Hp) (C : AH) (R H : Hp) (Q : List (V × V) → Hp → Prop) (P : List (Key × D) → AH → Prop), Slo K F s σ → Sat B K F C R H → aPairs l s C P →
  (∀ es kvs F' C' H', Ex F F' → Sat B K F' C' R H' → RepK K F' kvs es → P es C' → Q (kvs.map fun kv => (kV kv.1, kv.2)) H') → tPairs trs σ H Q
structure APs (B : Bs) (X : Cx) (pos : Pos) (keys : List (Option Expr)) (vals : List Expr) (trs : List (TE × TE)) (l : List (Key × AE')) : Prop where
  pps : PPs X pos keys vals trs
  sim : SimPs B X.K trs l
theorem sim_pcons {K : PySem.W.Frag} {k : Key} {te : TE} {a : AE'} {trs : List (TE × TE)} {l : List (Key × AE')} (h : SimE B K te a) (g : SimPs B K trs l) : SimPs B K ((tC (kV k), te) :: trs) ((k, a) :: l) := by
  intro σ s F C R H Q P hs hS h0 kk
  refine h σ s F C R H _ _ hs hS h0 fun d v F1 C1 H1 e1 S1 r1 h1 => ?_
  refine g σ s F1 C1 R H1 _ _ (hs.mono e1) S1 h1 fun es kvs F2 C2 H2 e2 S2 r2 h2 => ?_
  exact kk ((k, d) :: es) ((k, v) :: kvs) F2 C2 H2 (e1.trans e2) S2 (.cons (r1.mono e2) r2) h2
theorem aps_nil {X : Cx} {pos : Pos} : APs B X pos [] [] [] [] := ⟨pps_nil, fun σ s F C R H Q P hs hS h k => k [] [] F C H (Ex.refl F) hS .nil h⟩
theorem aps_str {X : Cx} {pos p : Pos} {x : Str} {j} {e : Expr} {ks : List (Option Expr)} {vs : List Expr} {te : TE} {a : AE'} {trs : List (TE × TE)} {l : List (Key × AE')} (h : AE B X e te a) (g : APs B X pos ks vs trs l) : APs B X pos (some (.Constant (.str x) j p) :: ks) (e :: vs) ((tC (.str x), te) :: trs) ((.inr x, a) :: l) :=
  ⟨pps_cons pe_str h.pe g.pps, sim_pcons (k := .inr x) h.sim g.sim⟩
theorem aps_int {X : Cx} {pos p : Pos} {x : Int} {j} {e : Expr} {ks : List (Option Expr)} {vs : List Expr} {te : TE} {a : AE'} {trs : List (TE × TE)} {l : List (Key × AE')} (h : AE B X e te a) (g : APs B X pos ks vs trs l) : APs B X pos (some (.Constant (.int x) j p) :: ks) (e :: vs) ((tC (.int x), te) :: trs) ((.inl x, a) :: l) :=
  ⟨pps_cons pe_int h.pe g.pps, sim_pcons (k := .inl x) h.sim g.sim⟩
theorem RepK.merge {K : PySem.W.Frag} {F : Hp} : ∀ {more : List (Key × V)} {ms : List (Key × D)} {vs : List (Key × V)} {ds : List (Key × D)}, RepK K F more ms → RepK K F vs ds → RepK K F (mergeK vs more) (mergeD ds ms)
  | _, _, _, _, .nil, h => h
  | (k, v) :: more, (_, d) :: ms, vs, ds, .cons r t, h => by
    show RepK K F (mergeK (putK vs k v) more) (mergeD (putD ds k d) ms)
    exact RepK.merge t (RepK.put k r h)
theorem sim_disp {K : PySem.W.Frag} {trs : List (TE × TE)} {l : List (Key × AE')} (h : SimPs B K trs l) : SimE B K (tDisp trs) (aDisp l) := by
  intro σ s F C R H Q P hs hS h0 k p hp
  have hF := hS.freeF hp
  have hC := hS.freeC hp
  have hR := hS.freeR hp
  refine h σ s F C (upd R p (.dK [])) (upd H p (.dK [])) _ _ hs (hS.setR hF hC (hS.freeB hR) _) h0 fun es kvs F1 C1 H1 e1 S1 r1 h1 => ?_
  obtain ⟨h15, h1⟩ := h1
  obtain ⟨f1, c1, g1⟩ := S1.priv p _ upd_same
  refine ⟨g1, kvs, rfl, by rw [r1.length]; exact h15, ?_⟩
  have S2 := (S1.outC hR (hS.freeB hR) (.dk .nil)).mutC put_same (.dk (RepK.merge r1 .nil))
  rw [put_put] at S2
  exact k _ _ F1 _ _ e1 S2 (.ce p) (h1 p c1)
theorem ae_disp {X : Cx} {pos : Pos} {keys : List (Option Expr)} {vals : List Expr} {trs : List (TE × TE)} {l : List (Key × AE')} (h : APs B X pos keys vals trs l) (hall : keys.all (·.isSome) = true := by rfl) (hl : keys.length = vals.length := by rfl) (h0 : keys ≠ [] := by simp) (h15 : keys.length ≤ 15 := by decide) : AE B X (.Dict keys vals pos) (tDisp trs) (aDisp l) :=
  ⟨pe_disp h.pps hall hl h0 h15, sim_disp h.sim⟩
/-- a, b = x, y -/
def aPar (i j : Nat) (aa : AA') : AS' := fun E s C => aa s C fun ds C1 => match ds with
  | [d, e] => E.nx ((s.set i (some d)).set j (some e)) C1
  | _ => False
section
variable {nx : ASt → AH → Prop} {rt : D → AH → Prop} {bk ct : ASt → AH → Prop} {s : ASt} {C : AH} {P : D → AH → Prop} {aa : AA'} {e : AE'} {i j : Nat} {p : Addr}
def kPar (i j : Nat) (nx : ASt → AH → Prop) (s : ASt) : List D → AH → Prop := fun ds C1 => match ds with
  | [d, e] => nx ((s.set i (some d)).set j (some e)) C1
  | _ => False
theorem g_par (h : aa s C (kPar i j nx s)) : aPar i j aa ⟨nx, rt, bk, ct⟩ s C := (congrArg (aa s C) (by funext ds C1; rfl)).mpr h
theorem g_kPar {d e : D} {s' : ASt} (h0 : (s.set i (some d)).set j (some e) = s') (h : nx s' C) : kPar i j nx s [d, e] C := by
  subst h0
  exact h
theorem g_neg {z : Int} (h : P (.int (-z)) C) : aNeg (.int z) C P := h
def penD (x y z : D) : Cell := .dk [(.inr "script", x), (.inr "at", y), (.inr "left", z)]
theorem g_pen0 {x y z : D} (hi : s[i]? = some (some (.ce p))) (h1 : C p = some (penD x y z)) (h : P x C) : aGetK (aVar i) (aC (.str "script")) s C P := by
  refine g_var hi ?_
  show (match (match C p with | some (.dk es) => some es | _ => none), keyOf (.str "script") with | some es, some k => (match valD es k with | some d => P d C | none => False) | _, _ => False)
  rw [h1]
  exact h
theorem g_pen1 {x y z : D} (hi : s[i]? = some (some (.ce p))) (h1 : C p = some (penD x y z)) (h : P y C) : aGetK (aVar i) (aC (.str "at")) s C P := by
  refine g_var hi ?_
  show (match (match C p with | some (.dk es) => some es | _ => none), keyOf (.str "at") with | some es, some k => (match valD es k with | some d => P d C | none => False) | _, _ => False)
  rw [h1]
  exact h
theorem g_pen2 {x y z : D} (hi : s[i]? = some (some (.ce p))) (h1 : C p = some (penD x y z)) (h : P z C) : aGetK (aVar i) (aC (.str "left")) s C P := by
  refine g_var hi ?_
  show (match (match C p with | some (.dk es) => some es | _ => none), keyOf (.str "left") with | some es, some k => (match valD es k with | some d => P d C | none => False) | _, _ => False)
  rw [h1]
  exact h
def kPut (i : Nat) (x : Str) (nx : ASt → AH → Prop) (s : ASt) : D → AH → Prop := fun d C1 => aVar i s C1 fun x' C2 => match x' with
  | .ce p => (match C2 p with | some (.dk es) => es.length < sizeLine ∧ nx s (put C2 p (.dk (putD es (.inr x) d))) | _ => False)
  | _ => False
theorem g_putK {x : Str} (h : e s C (kPut i x nx s)) : aPutK (aVar i) (aC (.str x)) e ⟨nx, rt, bk, ct⟩ s C := by
  refine (congrArg (e s C) ?_).mpr h
  funext d C1
  refine congrArg (aVar i s C1) ?_
  funext y C2
  cases y <;> rfl
theorem g_kPut1 {x y z d : D} (hi : s[i]? = some (some (.ce p))) (h1 : C p = some (penD x y z)) (h : nx s (put C p (penD x d z))) : kPut i "at" nx s d C := by
  refine g_var hi ?_
  show (match C p with | some (.dk es) => es.length < sizeLine ∧ nx s (put C p (.dk (putD es (.inr "at") d))) | _ => False)
  rw [h1]
  exact ⟨by show 3 < sizeLine; decide, h⟩
theorem g_kPut2 {x y z d : D} (hi : s[i]? = some (some (.ce p))) (h1 : C p = some (penD x y z)) (h : nx s (put C p (penD x y d))) : kPut i "left" nx s d C := by
  refine g_var hi ?_
  show (match C p with | some (.dk es) => es.length < sizeLine ∧ nx s (put C p (.dk (putD es (.inr "left") d))) | _ => False)
  rw [h1]
  exact ⟨by show 3 < sizeLine; decide, h⟩
theorem g_newPen {x y : D} (hi : s[i]? = some (some x)) (hj : s[j]? = some (some y)) (h : ∀ p, C p = none → P (.ce p) (put C p (penD x y (.int 0)))) : aDisp [(.inr "script", aVar i), (.inr "at", aVar j), (.inr "left", aC (.int 0))] s C P := by
  simp only [aDisp, aPairs]
  exact g_var hi (g_var hj (g_c ⟨by simp, h⟩))
end
end AL
namespace AL
open PySem PySem.Spec L2
variable {B : Bs}
section
variable {s : ASt} {C : AH} {P : D → AH → Prop} {a e : AE'} {l h : AO'} {PO : Option Int → AH → Prop}
theorem g_sl {r : D → Option Int → Option Int → AH → (D → AH → Prop) → Prop} (h0 : a s C fun x C1 => l s C1 fun i C2 => h s C2 fun j C3 => r x i j C3 P) : aSl r a l h s C P := h0
theorem g_noPart (h0 : PO none C) : aNoPart s C PO := h0
def kPart (PO : Option Int → AH → Prop) : D → AH → Prop := fun x C1 => match x with | .int i => PO (some i) C1 | _ => False
theorem g_part (h0 : e s C (kPart PO)) : aPart e s C PO := (congrArg (e s C) (by funext x C1; cases x <;> rfl)).mpr h0
theorem g_kPart {i : Int} (h0 : PO (some i) C) : kPart PO (.int i) C := h0
theorem cutD_take (ds : List D) (j : Nat) : cutD ds none (some (j : Int)) = ds.take j := by
  unfold cutD
  rw [HT.sIx_none, HT.sIx_nat, List.drop_zero, Nat.sub_zero]
  by_cases hj : j ≤ ds.length
  · rw [Nat.min_eq_left hj]
  · rw [Nat.min_eq_right (by omega), List.take_of_length_le (by omega), List.take_of_length_le (by omega)]
theorem cutD_drop (ds : List D) (j : Nat) : cutD ds (some (j : Int)) none = ds.drop j := by
  unfold cutD
  rw [HT.sIx_none, HT.sIx_nat]
  by_cases hj : j ≤ ds.length
  · rw [Nat.min_eq_left hj, List.take_of_length_le (by rw [List.length_drop]; omega)]
  · rw [Nat.min_eq_right (by omega), List.drop_eq_nil_of_le (Nat.le_refl _), List.drop_eq_nil_of_le (by omega)]
    simp
theorem g_cutTake {us : List D} {j : Nat} (h0 : P (.lst (us.take j)) C) : aCut (.lst us) none (some (j : Int)) C P := by
  show P (.lst (cutD us none (some (j : Int)))) C
  rw [cutD_take]; exact h0
theorem g_cutDrop {us : List D} {j : Nat} (h0 : P (.lst (us.drop j)) C) : aCut (.lst us) (some (j : Int)) none C P := by
  show P (.lst (cutD us (some (j : Int)) none)) C
  rw [cutD_drop]; exact h0
end
end AL
namespace AL
open PySem PySem.Spec PyProof.Rows L2
variable {B : Bs}
section
variable {X : Cx} {K : PySem.W.Frag}
def signsV (z : Str) : List V := z.cps.toList.map fun c => V.str ⟨#[c]⟩
def toV : D → Option V
  | .non => some .non
  | .bl b => some (.bl b)
  | .int i => some (.int i)
  | .str x => some (.str x)
  | _ => none
def toVs : List D → Option (List V)
  | [] => some []
  | d :: ds => match toV d, toVs ds with | some v, some vs => some (v :: vs) | _, _ => none
theorem toV_ok {F : Hp} {v u : V} {d : D} (r : Rep K F v d) (h : toV d = some u) : v = u ∧ flatV u = true := by
  cases r <;> simp [toV] at h <;> subst h <;> exact ⟨rfl, rfl⟩
theorem toVs_ok {F : Hp} : ∀ {vs us : List V} {ds : List D}, RepL K F vs ds → toVs ds = some us → vs = us ∧ us.all flatV = true
  | _, _, _, .nil, h => by cases h; exact ⟨rfl, rfl⟩
  | _, us, d :: ds, .cons r t, h => by
    unfold toVs at h
    split at h
    · rename_i v vs e1 e2
      cases h
      obtain ⟨a1, a2⟩ := toV_ok r e1
      obtain ⟨b1, b2⟩ := toVs_ok t e2
      subst a1 b1
      exact ⟨rfl, by simp [a2, b2]⟩
    · cases h
def aIn (neg : Bool) : D → D → AH → (D → AH → Prop) → Prop := fun x y C P => match toV x, (asS C y).bind toVs with
  | some u, some us => P (.bl (if neg then !inV u us else inV u us)) C
  | _, _ => False
abbrev aInL := aIn false
abbrev aNinL := aIn true
theorem sim_in (neg : Bool) : SimR2 B K (rIn K neg) (aIn neg) := by
  intro v w d e F C R H Q P hS r1 r2 h k
  unfold aIn at h
  split at h
  · rename_i u us e1 e2
    obtain ⟨ds, e3, e4⟩ := Option.bind_eq_some_iff.mp e2
    obtain ⟨a, xs, rfl, h1, h2⟩ := asS_ok hS r2 e3
    obtain ⟨a1, a2⟩ := toV_ok r1 e1
    obtain ⟨b1, b2⟩ := toVs_ok h2 e4
    subst a1 b1
    exact ⟨a, xs, rfl, h1, a2, b2, k _ _ F C H (Ex.refl F) hS (.bl _) h⟩
  · exact h.elim
theorem ao_inL (hK : X.K = K := by rfl) : AOp B X (compareOp .In) (rIn K false) aInL := by subst hK; exact ⟨op_in_seq, sim_in false⟩
theorem ao_ninL (hK : X.K = K := by rfl) : AOp B X (compareOp .NotIn) (rIn K true) aNinL := by subst hK; exact ⟨op_notIn_seq, sim_in true⟩
end
end AL
namespace AL
open PySem PySem.Spec L2
end AL
namespace AL
open PySem PySem.Spec PyProof.Rows L2
variable {B : Bs}
def okS (z : Str) : Prop := ∀ c ∈ z.cps.toList, c < 0x110000
def One (z : Str) : Prop := ∃ c : Nat, z = ⟨#[c]⟩ ∧ c < 0x110000
theorem One.len {z : Str} (h : One z) : z.length = 1 := by obtain ⟨c, rfl, _⟩ := h; rfl
theorem One.ok {z : Str} (h : One z) : okS z := by
  obtain ⟨c, rfl, hc⟩ := h
  intro d hd
  have : d = c := by simpa using hd
  rw [this]; exact hc
end AL
namespace AL
open PySem PySem.Spec PyProof.Rows L2
end AL
namespace HT
open PySem PySem.Spec PyProof.Rows L2
section
variable {prog : Program} {w : World} {A : Around} {E : Value → Shared → Prop} {s : Shared}
theorem sliceApplied_rev {sl : Addr} {vl vu vs : Value} {n : Nat} {Q : Int × Int × Nat → Shared → Prop} (hs : s.heap.IsSliceOf sl vl vu vs) (pl : IsPart vl none) (pu : IsPart vu none) (ps : IsPart vs (some (-1)))
    (h : Q ((n : Int) - 1, -1, n) s) : wpAny (model prog w) A (Builtin.Slice.sliceApplied (.ref sl) (pure (n : Int))) Q E s := by
  obtain ⟨os, hos, hcs, hds⟩ := id hs
  unfold Builtin.Slice.sliceApplied Builtin.Slice.sliceFields
  refine wpAny_bind (wpAny_bind (wpAny_field hos hds (x := vl) rfl (wpAny_bind (wpAny_field hos hds (x := vu) rfl (wpAny_bind (wpAny_field hos hds (x := vs) rfl (wpAny_pure ?_)))))))
  refine wpAny_bind (slicePart_ ps ?_)
  show wpAny _ _ (if ((-1 : Int) == 0) = true then _ else _) _ _ s
  rw [if_neg (by decide)]
  refine wpAny_bind (slicePart_ pl (wpAny_bind (slicePart_ pu (wpAny_bind (wpAny_pure ?_)))))
  show wpAny _ _ (match Builtin.Slice.sliceAdjust none none (-1) (n : Int) with | (lo, hi) => pure (lo, (-1 : Int), Builtin.Slice.slicePlaces lo hi (-1))) _ _ s
  have e : Builtin.Slice.sliceAdjust none none (-1) (n : Int) = ((n : Int) - 1, -1) := by
    unfold Builtin.Slice.sliceAdjust
    simp
  have e2 : Builtin.Slice.slicePlaces ((n : Int) - 1) (-1) (-1) = n := by
    unfold Builtin.Slice.slicePlaces
    simp
    omega
  rw [e]
  show wpAny _ _ (pure ((n : Int) - 1, (-1 : Int), Builtin.Slice.slicePlaces ((n : Int) - 1) (-1) (-1))) _ _ s
  rw [e2]
  exact wpAny_pure h
theorem fmap_some {α β : Type} {f : α → Option β} {g : α → β} : ∀ {l : List α}, (∀ m ∈ l, f m = some (g m)) → l.filterMap f = l.map g
  | [], _ => rfl
  | m :: l, h => by
    rw [List.filterMap_cons, h m (List.mem_cons_self ..), List.map_cons, fmap_some fun k hk => h k (List.mem_cons_of_mem _ hk)]
theorem pick_rev (xs : Array Value) : ((List.range xs.size).filterMap fun (m : Nat) => xs[(((xs.size : Nat) : Int) - 1 + (m : Int) * (-1)).toNat]?).toArray = xs.toList.reverse.toArray := by
  congr 1
  have e : ∀ m ∈ List.range xs.size, xs[(((xs.size : Nat) : Int) - 1 + (m : Int) * (-1)).toNat]? = some (xs.toList.reverse.getD m .none) := by
    intro m hm
    have hm' : m < xs.size := List.mem_range.mp hm
    have e1 : (((xs.size : Nat) : Int) - 1 + (m : Int) * (-1)).toNat = xs.size - 1 - m := by omega
    have h2 : xs.size - 1 - m < xs.size := by omega
    have h3 : m < xs.toList.reverse.length := by rw [List.length_reverse, Array.length_toList]; exact hm'
    rw [e1, Array.getElem?_eq_getElem h2, List.getD, List.getElem?_eq_getElem h3]
    simp
  rw [fmap_some e]
  refine List.ext_getElem (by simp) fun i h1 h2 => ?_
  simp [List.getD, List.getElem?_eq_getElem h2]
theorem getItem_tuple_rev {t sl : Addr} {items : Array Value} {vl vu vs : Value} {Q : Value → Shared → Prop} (ht : IsTup s.heap t items) (hs : s.heap.IsSliceOf sl vl vu vs) (pl : IsPart vl none) (pu : IsPart vu none) (ps : IsPart vs (some (-1)))
    (h : Q (.ref s.heap.objs.size) { s with heap := s.heap.push { cls := .type "tuple", data := .seq items.toList.reverse.toArray } }) (hsz : items.size ≤ sizeLine) : wpAny (model prog w) A (getItem (.ref t) (.ref sl)) Q E s := by
  have htake : sizeOk (.seq items.toList.reverse.toArray) := by
    show items.toList.reverse.toArray.size ≤ sizeLine
    rw [List.size_toArray, List.length_reverse, Array.length_toList]
    exact hsz
  obtain ⟨os, hos, hcs, hds⟩ := id hs
  have hTs : s.TypeIs (.ref sl) "slice" := ⟨os, hos, hcs⟩
  unfold getItem
  try with_reducible refine wpAny_holding ?_
  first | refine wpAny_bind (wpAny_pure ?_) | skip
  refine wpAny_bind (wpAny_sequenceKey ht.typeIs (by decide) ?_)
  refine wpAny_bind (wpAny_callSpecial?_slot (name := Str.ofString "__getitem__") ht.typeIs PyProof.Rows.slot_tuple_getitem
    (wpAny_call_entry PyProof.Rows.slot_tuple_getitem ht.typeIs entry_tuple_getitem ?_ (args_tuple_getitem _ _)))
  show wpAny _ _ (Builtin.Tuple.tupleItemsOf (.ref t) >>= _) _ _ s
  refine wpAny_bind (tupleItemsOf_ ht ?_)
  refine wpAny_bind (wpAny_typeOf hTs ?_)
  rw [if_pos (by decide)]
  refine wpAny_bind (sliceApplied_rev hs pl pu ps ?_)
  have hno : ¬ ((((items.size : Nat) : Int) - 1 == 0 && (-1 : Int) == 1 && items.size == items.size) = true) := by
    intro q
    rw [Bool.and_eq_true, Bool.and_eq_true] at q
    exact absurd q.1.2 (by decide)
  show wpAny _ _ (if (((items.size : Nat) : Int) - 1 == 0 && (-1 : Int) == 1 && items.size == items.size) = true then _ else _) _ _ s
  rw [if_neg hno, pick_rev]
  first
    | exact wpAny_bind (m := Builtin.Tuple.tupleExact _) (wpAny_newObj_type (wpAny_pure ⟨_, rfl, wpAny_pure h⟩) htake)
    | exact wpAny_bind (m := Builtin.Tuple.tupleExact _) (wpAny_newObj_type (wpAny_bind (wpAny_pure (wpAny_pure ⟨_, rfl, wpAny_pure h⟩))) htake)
    | exact wpAny_bind (wpAny_bind (m := Builtin.Tuple.tupleExact _) (wpAny_newObj_type (wpAny_pure (wpAny_pure ⟨_, rfl, wpAny_pure h⟩)) htake))
    | exact wpAny_bind (wpAny_bind (m := Builtin.Tuple.tupleExact _) (wpAny_newObj_type (wpAny_pure ⟨_, rfl, wpAny_pure h⟩) htake))
end
end HT
namespace AL
open PySem PySem.Spec PyProof.Rows L2
variable {B : Bs}
section
variable {X : Cx} {K : PySem.W.Frag}
/-- t[::-1] of a tuple -/
def tRevT (K : PySem.W.Frag) (te : TE) : TE := fun σ H Q => te σ H fun x H1 => ∃ a xs, x = .ref a ∧ SqT K H1 a xs ∧ NewT xs.reverse Q H1
theorem pe_revT {e : Expr} {te : TE} {k : Nat} {p1 p2 p3 pos : Pos} (he : PE X e te) : PE X (.Subscript e (.Slice none none (some (.UnaryOp .USub (.Constant (.int 1) k p1) p2)) p3) pos) (tRevT X.K te) := by
  refine ⟨fun pins s σ H Q I h => ?_⟩
  refine Subscript_ (thn (he.run pins s σ H _ I h) fun v s1 ⟨x, H1, I1, r1, q1⟩ => ?_)
  obtain ⟨a, xs, ex, hx, q⟩ := q1
  subst ex
  cases r1
  have hst : PO X (some (.UnaryOp .USub (.Constant (.int 1) k p1) p2)) (tPart (tUn (rU fun i => .int (-i)) (tC (.int 1)))) := po_some (pe_un un_neg pe_int)
  refine wpAny_Slice (thn (po_none.run pins s1 σ H1 (fun o H2 => o = none ∧ H2 = H1) I1 ⟨rfl, rfl⟩) fun vl s2 ⟨l, H2, I2, pl, el, e2⟩ => ?_)
  subst el e2
  refine thn (po_none.run pins s2 σ H2 (fun o H3 => o = none ∧ H3 = H2) I2 ⟨rfl, rfl⟩) fun vu s3 ⟨u, H3, I3, pu, eu, e3⟩ => ?_
  subst eu e3
  refine thn (hst.run pins s3 σ H3 (fun o H4 => o = some (-1) ∧ H4 = H3) I3 ⟨1, rfl, -1, rfl, rfl, rfl⟩) fun vs s4 ⟨o, H4, I4, ps, eo, e4⟩ => ?_
  subst eo e4
  have I5 : Inv X pins σ H4 { s4 with heap := s4.heap.push { cls := .type "slice", data := .fields #[vl, vu, vs] } } := I4.kept (t' := s4.toks) fun b ob q => Heap.get?_push_of_some _ q
  obtain ⟨its, r, ht, hz⟩ := I5.tuple hx
  have hlen := r.length
  show wpAny (model X.prog X.w) X.A (subscriptTail e (.Slice none none (some (.UnaryOp .USub (.Constant (.int 1) k p1) p2)) p3) (.ref a) (.ref s4.heap.objs.size)) (EP X pins σ Q) X.xe { s4 with heap := s4.heap.push { cls := .type "slice", data := .fields #[vl, vu, vs] } }
  refine tail_any (ops := [.ref a, .ref s4.heap.objs.size]) ht.typeIs (PyProof.Rows.slot_tuple_getitem.lookup) ?_ (by with_unfolding_all rfl)
  refine HT.getItem_tuple_rev ht (Heap.IsSliceOf.new _ vl vu vs) pl pu ps ?_ (by rw [List.size_toArray]; omega)
  exact laidT (tk := s4.toks) I5 (by rw [List.length_reverse]; exact hz) r.reverse q
def aRevT : D → AH → (D → AH → Prop) → Prop := fun x C P => match asT x with | some ds => P (.tup ds.reverse) C | none => False
theorem ae_revT {pos : Pos} {e : Expr} {te : TE} {a : AE'} {k : Nat} {p1 p2 p3 : Pos} (he : AE B X e te a) (hK : X.K = K := by rfl) : AE B X (.Subscript e (.Slice none none (some (.UnaryOp .USub (.Constant (.int 1) k p1) p2)) p3) pos) (tRevT K te) (aUn aRevT a) := by
  subst hK
  exact ⟨pe_revT he.pe, by
  intro σ s F C R H Q P hs hS h0 k
  refine he.sim σ s F C R H _ _ hs hS h0 fun x v F1 C1 H1 e1 S1 r1 h1 => ?_
  unfold aRevT at h1
  split at h1
  · rename_i ds q
    obtain ⟨a, xs, e2, h2, h3⟩ := asT_ok S1 r1 q
    refine ⟨a, xs, e2, SqT.of h2, fun p ob hob hp => ?_⟩
    have e := Ex.new (o := .frz ob (.tup xs.reverse)) (S1.freeF hp)
    exact k _ _ _ C1 _ (e1.trans e) (S1.newF hp _) (.tup (.frz hob upd_same) (h3.reverse.mono e)) h1
  · exact h1.elim⟩
variable {C : AH} {P : D → AH → Prop}
theorem g_revT {ds : List D} (h : P (.tup ds.reverse) C) : aRevT (.tup ds) C P := h
end
end AL
namespace AL
open PySem PySem.Spec PyProof.Rows L2
end AL
namespace AL
open PySem PySem.Spec PyProof.Rows L2
end AL
namespace AL
open PySem
def Keep (C C' : AH) : Prop := ∀ r c, C r = some c → C' r = some c
theorem Keep.refl (C : AH) : Keep C C := fun _ _ h => h
theorem Keep.trans {C C1 C2 : AH} (a : Keep C C1) (b : Keep C1 C2) : Keep C C2 := fun r c h => b r c (a r c h)
theorem Keep.put {C C' : AH} {q : Addr} {c : Cell} (h : Keep C C') (hq : C q = none) : Keep C (AL.put C' q c) := fun r d e => by rw [put_ne (ne_cell e hq)]; exact h r d e
theorem Keep.del {C C' : AH} {q : Addr} (h : Keep C C') (hq : C q = none) : Keep C (AL.del C' q) := fun r d e => by
  unfold AL.del
  rw [if_neg (ne_cell e hq)]
  exact h r d e
theorem Keep.none {C C' : AH} {q : Addr} (h : Keep C C') (hq : C' q = Option.none) : C q = Option.none := by
  cases e : C q with
  | none => rfl
  | some c => rw [h q c e] at hq; cases hq
/-- all but p -/
def Oth (p : Addr) (C C' : AH) : Prop := ∀ r c, r ≠ p → C r = some c → C' r = some c
theorem Oth.refl (p : Addr) (C : AH) : Oth p C C := fun _ _ _ h => h
theorem Oth.trans {p : Addr} {C C1 C2 : AH} (a : Oth p C C1) (b : Oth p C1 C2) : Oth p C C2 := fun r c n h => b r c n (a r c n h)
theorem Oth.of {p : Addr} {C C' : AH} (a : Keep C C') : Oth p C C' := fun r c _ h => a r c h
theorem Oth.pen {p : Addr} {C C' : AH} {c : Cell} (h : Oth p C C') : Oth p C (AL.put C' p c) := fun r d n e => by rw [put_ne n]; exact h r d n e
theorem Oth.put {p q : Addr} {C C' : AH} {c : Cell} (h : Oth p C C') (hq : C q = none) : Oth p C (AL.put C' q c) := fun r d n e => by rw [put_ne (ne_cell e hq)]; exact h r d n e
theorem Oth.del {p q : Addr} {C C' : AH} (h : Oth p C C') (hq : C q = none) : Oth p C (AL.del C' q) := fun r d n e => by
  unfold AL.del
  rw [if_neg (ne_cell e hq)]
  exact h r d n e
theorem Oth.none {p q : Addr} {C C' : AH} (h : Oth p C C') (hn : q ≠ p) (hq : C' q = Option.none) : C q = Option.none := by
  cases e : C q with
  | none => rfl
  | some c => rw [h q c hn e] at hq; cases hq
end AL
namespace AL
open PySem PySem.Spec PyProof.Rows L2
section
variable {P : Program} {w : World} {K : PySem.W.Frag} {mg mb : Str → Option Value} {k : Nat} {fa a : Addr} {fd : FuncData} {x : Str} {sp : Sp} {s₁ : Shared} {vs : List Value} {ns : List Int}
theorem core_G (hns : s₁.heap.Ns mainGlobals mg) (hb : s₁.heap.Ns builtinsNs mb) (hbb : ∀ x : Str, x ≠ "__name__" → mb x = bootBuiltins x) (hlim : s₁.heap.NoLimit) (hg : s₁.gens = #[]) (KX : K.In s₁.heap)
    (ha : s₁.heap.get? a = some { cls := .type "list", data := .seq vs.toArray }) (hr : Room k callerA)
    (F : ∀ base : Heap, K.In base → base.Ns mainGlobals mg → FnG P w K mg base k fa fd [x] sp) (hbind : ∀ (s : Shared) (u : Value), BindsTo s fd ⟨[u], []⟩ [(x, u)])
    {H : Hp} (hO : Only H) (hsp : sp [.ref a] H (fun v _ => v = .bl true) fun _ _ _ => False) (hok : HOk P w H s₁.heap) (hA : ∀ b, H b ≠ none → b = a) (hK : H a ≠ none → K.lookup a = none) :
    codeAny (model P w) callerA (.call (.ref fa) ⟨[.ref a], []⟩) (fun r s' => r = .ok (.ret (.bool true)) ∧ OldK s₁.heap s'.heap ∧ s'.os = s₁.os ∧ AllBare s'.gens) s₁ := by
  have free : ∀ {b : Addr} {o : Obj}, s₁.heap.get? b = some o → (b = a → False) → H b = none := fun {b o} e n => by
    cases q : H b with
    | none => rfl
    | some u => exact (n (hA b (by rw [q]; simp))).elim
  have dictFree : ∀ {b : Addr} {m : Str → Option Value}, s₁.heap.Ns b m → (hidT s₁.heap H).Ns b m := by
    rintro b m ⟨o, es, ep, e, d, r⟩
    refine ⟨o, es, ep, hidT_get e (free e fun z => ?_), d, r⟩
    subst z
    rw [ha] at e
    cases e
    cases (show Data.seq vs.toArray _ = Data.dict es ep from d)
  have kin : K.In (hidT s₁.heap H) := fun b o e => hidT_get (KX b o e) (by
    cases q : H b with
    | none => rfl
    | some u =>
      have z : b = a := hA b (by rw [q]; simp)
      subst z
      rw [hK (by rw [q]; simp)] at e
      cases e)
  obtain ⟨mc, l1, l2⟩ := hlim
  have md : Mod K mg (hidT s₁.heap H) := ⟨kin, dictFree hns, ⟨mb, dictFree hb, hbb⟩, ⟨mc, dictFree l1, l2⟩⟩
  have e0 : Env0 P w K mg (hidT s₁.heap H) callerA [] s₁ H :=
    { frames := rfl, mod := md, bs := fun b o e => of_hidT e, bsz := Nat.le_of_eq (hidT_size _ _), funs := trivial, frf := fun b z => (by cases z), hok := hok, bare := .of_eq hg }
  refine codeAny_mono ((F _ kin (dictFree hns)).run callerA [] s₁ H ⟨[.ref a], []⟩ [.ref a] [.ref a] _ _ hr rfl e0 (hbind s₁ (.ref a)) (.cons rfl .nil) hsp) fun res s2 z => ?_
  match res, z with
  | .error e, z =>
    obtain ⟨_, _, _, _, _, _, _, _, _, _, _, _, z⟩ := z
    exact z.elim
  | .ok .next, z => exact False.elim z
  | .ok .brk, z => exact False.elim z
  | .ok .cont, z => exact False.elim z
  | .ok (.ret u), z =>
    obtain ⟨v, H2, os, bare, un, hok2, r, q⟩ := z
    cases (show v = .bl true from q)
    obtain rfl : u = Value.bool true := r
    refine ⟨rfl, OldK.of_keep fun b o e => ?_, os, bare⟩
    rcases hO b with z | ⟨ob, xs, z⟩
    · exact un.keep b o e z (by intro y; cases y) (by simp)
    · have e1 := (hok b _ z).1
      have e2 := (hok2 b _ (un.frzs b ob _ z)).1
      rw [e] at e1
      cases e1
      exact e2
theorem law_G (KX : K.In s₁.heap) (hns : s₁.heap.Ns mainGlobals mg) (hb : s₁.heap.Ns builtinsNs mb) (hbb : ∀ x : Str, x ≠ "__name__" → mb x = bootBuiltins x) (hlim : s₁.heap.NoLimit) (hg : s₁.gens = #[])
    (ha : s₁.heap.get? a = some { cls := .type "list", data := .seq vs.toArray }) (hi : IntsAre vs ns) (hl : ns.length ≤ sizeLine) (hr : Room k callerA)
    (F : ∀ base : Heap, K.In base → base.Ns mainGlobals mg → FnG P w K mg base k fa fd [x] sp) (hbind : ∀ (s : Shared) (u : Value), BindsTo s fd ⟨[u], []⟩ [(x, u)])
    (hsp : ∀ H : Hp, Only H → SqL K H a (ns.map V.int) → sp [.ref a] H (fun v _ => v = .bl true) fun _ _ _ => False) :
    codeAny (model P w) callerA (.call (.ref fa) ⟨[.ref a], []⟩) (fun r s' => r = .ok (.ret (.bool true)) ∧ OldK s₁.heap s'.heap ∧ s'.os = s₁.os ∧ AllBare s'.gens) s₁ := by
  have go := fun {H : Hp} (hO : Only H) (hS : SqL K H a (ns.map V.int)) => core_G hns hb hbb hlim hg KX ha hr F hbind hO (hsp H hO hS)
  cases hk : K.lookup a with
  | some o =>
    have e := KX a o hk
    rw [ha] at e
    cases e
    refine go (H := fun _ => none) (fun _ => .inl rfl) (.inr ⟨_, vs.toArray, _, hk, rfl, rfl, rfl, ?_, ?_⟩) (fun b u z => ?_) (fun b z => (z rfl).elim) fun z => (z rfl).elim
    · rw [List.size_toArray, hi.length]; exact hl
    · simpa using vals_ints hi
    · cases (show (none : Option HO) = some u from z)
  | none =>
    let oL : Obj := { cls := .type "list", data := .seq vs.toArray }
    let H0 : Hp := fun b => if b = a then some (.frz oL (.lst (ns.map V.int))) else none
    have at_a : H0 a = some (.frz oL (.lst (ns.map V.int))) := if_pos rfl
    have off : ∀ b, b ≠ a → H0 b = none := fun b n => if_neg n
    refine go (H := H0) (fun b => ?_) (.inl (.inr ⟨oL, at_a⟩)) (fun b u z => ?_) (fun b z => ?_) fun _ => hk
    · by_cases n : b = a
      · rw [n]; exact .inr ⟨_, _, at_a⟩
      · exact .inl (off b n)
    · by_cases n : b = a
      · subst n
        rw [at_a] at z
        cases z
        exact ⟨ha, by rw [List.length_map]; exact hl, vs, _, vals_ints hi, ha⟩
      · rw [off b n] at z; cases z
    · by_cases n : b = a
      · exact n
      · exact (z (off b n)).elim
end
theorem walk_G {l : PySem.W.OpenLaw} {n k : Nat} {q : Program} {loose : List Str} {XP : (Str → Option Value) → Heap → Prop} {YP : World → Heap → Prop} {d : DefRec} {K : Params → PySem.W.Frag} {sp : World → (Str → Option Value) → Sp} {x : Str}
    (hn : l.most = some n) (hn2 : n ≤ sizeLine) (hdf : d.params.defaults = []) (hr : Room k callerA) (hY : ∀ (w : World) (h : Heap), YP w h → (K w.params).In h)
    (F : ∀ (w : World) (mg : Str → Option Value) (fa : Addr) (h : Heap), (K w.params).In h → h.Ns mainGlobals mg → mg d.name = some (.ref fa) →
      ∃ fd : FuncData, (∀ (s : Shared) (u : Value), BindsTo s fd ⟨[u], []⟩ [(x, u)]) ∧ ∀ base : Heap, (K w.params).In base → base.Ns mainGlobals mg → FnG l.prog w (K w.params) mg base k fa fd [x] (sp w mg))
    (hsp : ∀ (w : World) (mg : Str → Option Value) (H : Hp) (a : Addr) (ns : List Int), ns.length ≤ n → Only H → SqL (K w.params) H a (ns.map V.int) → sp w mg [.ref a] H (fun v _ => v = .bl true) fun _ _ _ => False) :
    PySem.W.WalkO q loose XP YP l.row.toRowW d [] (fun f vs => PySem.call f vs) :=
  Att.attach_call hn hdf fun w s₀ s₁ mg mb fa o pm cd doc a vs ns G Y ho hd hcd hmg hobj hints hlen hg => by
    obtain ⟨fd, hb, hF⟩ := F w mg fa _ (hY w _ Y) G.T.g hmg
    exact law_G (hY w _ Y) G.T.g G.T.b G.T.builtins G.T.nolimit hg hobj hints (Nat.le_trans hlen hn2) hr hF hb fun H hO hS => hsp w mg H a ns hlen hO hS
end AL
namespace AL
open PySem PySem.Spec PyProof.Rows L2
variable {B : Bs}
section
variable {X : Cx} {K : PySem.W.Frag}
theorem u200 {k : Nat} {A : Around} (r : Room k A) : A.units + 200 < cLine := by
  have := r.un
  omega
def rRep (K : PySem.W.Frag) : List V → Hp → VK → Prop := fun xs H Q => ∃ x d, xs = [x] ∧ Dp K H x d ∧ d.showable = true ∧ d.hasDict = false ∧ d.depth ≤ 64 ∧ d.shown.length ≤ sizeLine ∧ Q (.str d.shown) H
theorem call_rep (hg : X.A.guards = some []) (hu : X.A.units + 200 < cLine) : CallR X (.builtin "repr") (rRep X.K) := by
  intro pins s σ H xs us Q I r h
  obtain ⟨x, d, rfl, hd, h1, h2, h3, h4, q⟩ := h
  obtain ⟨u, rfl, r1⟩ := vals1 r
  obtain ⟨as, rd⟩ := Dp.reads I d x u hd r1
  have fin : ∀ (tk : Nat) (t : Tok), EP X pins σ Q (.str d.shown t) { s with toks := tk } := fun tk t => ⟨.str _, H, I.tok _, ⟨t, rfl⟩, q⟩
  cases rd with
  | none => exact PySem.call_repr_gives (PySem.typeIs_none s) F.slot_NoneType_repr F.entry_NoneType_repr (F.args_NoneType_repr_1 _) gives_none_repr (by simpa [PyData.shown] using fin _ _) rfl (by decide)
  | bool b => exact PySem.call_repr_gives (PySem.typeIs_bool s b) F.slot_bool_repr F.entry_bool_repr (F.args_bool_repr_1 _) (gives_bool_repr b) (by simpa [PyData.shown] using fin _ _) rfl (by cases b <;> decide)
  | int i t => exact PySem.P.repr_of_int (by simpa [PyData.showable] using h1) (by simpa [PyData.shown] using fin _ _)
  | str z t => exact PySem.call_repr_gives (PySem.typeIs_str s z t) F.slot_str_repr F.entry_str_repr (F.args_str_repr_1 _) (gives_str_repr z t) (by simpa [PyData.shown] using fin _ _) rfl (by simpa [PyData.shown] using h4)
  | list a b c e => exact repr_of_reads' (.list a b c e) h1 (PyData.noDict_hsm h2) hg (by omega) (fun _ _ e => e) (fun h' u tk k => ⟨.str _, H, (I.kept (t' := tk) k), ⟨u, rfl⟩, q⟩) h4
  | tuple a b c e => exact repr_of_reads' (.tuple a b c e) h1 (PyData.noDict_hsm h2) hg (by omega) (fun _ _ e => e) (fun h' u tk k => ⟨.str _, H, (I.kept (t' := tk) k), ⟨u, rfl⟩, q⟩) h4
  | dict a b c e f => simp [PyData.hasDict] at h2
def aReprC : ASp := fun ds C P => match ds with
  | [d] => (match pdC C d with | some x => x.showable = true ∧ x.hasDict = false ∧ x.depth ≤ 64 ∧ x.shown.length ≤ sizeLine ∧ P (.str x.shown) C | none => False)
  | _ => False
theorem ac_reprC (hg : X.A.guards = some []) (hu : X.A.units + 200 < cLine) (hK : X.K = K := by rfl) : ACa B X (.builtin "repr") (rRep K) aReprC := by
  subst hK
  exact ⟨call_rep hg hu, by
  intro vs ds F C R H Q P hS r h k
  unfold aReprC at h
  split at h
  · cases r with
    | cons r1 r2 =>
      cases r2
      split at h
      · rename_i x e
        exact ⟨_, x, rfl, pdC_ok hS r1 e, h.1, h.2.1, h.2.2.1, h.2.2.2.1, k _ _ F C H (Ex.refl F) hS (.str _) h.2.2.2.2⟩
      · exact h.elim
  · exact h.elim⟩
end
end AL
namespace AL
open PySem PySem.Spec PyProof.Rows L2
variable {B : Bs}
mutual
def D.pe : D → Option PyData
  | .non => some .none
  | .bl b => some (.bool b)
  | .int i => some (.int i)
  | .str x => some (.str x)
  | .lst ds => (peL ds).map .list
  | .tup ds => (peL ds).map .tuple
  | .dk es => (peK es).map .dict
  | _ => none
def peL : List D → Option (List PyData)
  | [] => some []
  | d :: ds => match D.pe d, peL ds with | some x, some xs => some (x :: xs) | _, _ => none
def peK : List (Key × D) → Option (List (PyData × PyData))
  | [] => some []
  | (k, d) :: es => match D.pe d, peK es with | some x, some xs => some ((match k with | .inl i => PyData.int i | .inr z => PyData.str z, x) :: xs) | _, _ => none
end
section
variable {X : Cx} {K : PySem.W.Frag} {pins : List (Addr × Obj)} {σ : L2.St} {H F : Hp} {s : Shared}
/-- shown, one way or another -/
def Shw (X : Cx) (h : Heap) (u : Value) (x : PyData) : Prop := (∃ as, Reads h u x as) ∧ ∃ bs, ReadAtMost h x.depth bs ∧ ReprK X.prog X.w bs h x.depth u x.shown
def ShwL (X : Cx) (h : Heap) (us : List Value) (xs : List PyData) : Prop := (∃ as, ReadsAll h us xs as) ∧ ∃ bs, ReadAtMost h (PyData.depthAll xs) bs ∧ ReprAllK X.prog X.w bs h (PyData.depthAll xs) us (PyData.shownAll xs)
theorem ShwL.nil {h : Heap} : ShwL X h [] [] := ⟨⟨_, .nil⟩, [], fun _ z => (by cases z), by simp only [PyData.shownAll]; exact .nil⟩
theorem ShwL.cons {h : Heap} {u : Value} {us : List Value} {x : PyData} {xs : List PyData} (a : Shw X h u x) (b : ShwL X h us xs) : ShwL X h (u :: us) (x :: xs) := by
  obtain ⟨⟨_, r1⟩, b1, m1, k1⟩ := a
  obtain ⟨⟨_, r2⟩, b2, m2, k2⟩ := b
  have ed : PyData.depthAll (x :: xs) = max x.depth (PyData.depthAll xs) := by simp only [PyData.depthAll]
  refine ⟨⟨_, .cons r1 r2⟩, b1 ++ b2, ?_, ?_⟩
  · rw [ed]
    exact (m1.mono (Nat.le_max_left _ _)).append (m2.mono (Nat.le_max_right _ _))
  · rw [ed]
    simp only [PyData.shownAll]
    exact .cons ((k1.more fun z hz => List.mem_append_left _ hz).level_le (Nat.le_max_left _ _)) (k2.more_le (fun z hz => List.mem_append_right _ hz) (Nat.le_max_right _ _))
theorem shown_memL {xs : List PyData} {t : Str} (h : t ∈ PyData.shownAll xs) : t.length ≤ (PyData.list xs).shown.length := by
  simp only [PyData.shown]; exact listText_mem_le h
theorem shown_memT {xs : List PyData} {t : Str} (h : t ∈ PyData.shownAll xs) : t.length ≤ (PyData.tuple xs).shown.length := by
  simp only [PyData.shown]; exact tupleText_mem_le h
theorem shw_list {h : Heap} {a : Addr} {its : List Value} {xs : List PyData} (p : PlainL h a its.toArray) (q : ShwL X h its xs) : Shw X h (.ref a) (.list xs) := by
  obtain ⟨o, n, h1, h2, _, h3⟩ := p
  obtain ⟨⟨as, r⟩, bs, m, k⟩ := q
  have rr : Reads h (.ref a) (.list xs) _ := .list h1 h2 h3 (by simpa using r)
  have na : a ∉ bs := not_mem_of_deeper rr (by simp only [PyData.depth]; omega) m
  refine ⟨⟨_, rr⟩, a :: bs, ReadAtMost.cons rr (by simp only [PyData.depth]; omega) m, ?_⟩
  simp only [PyData.depth, PyData.shown]
  cases its with
  | nil =>
    have r' : ReadsAll h [] xs as := r
    cases r'
    simp only [PyData.shownAll]
    rw [listText_nil]
    exact (ReprK.listEmpty h1 h2 h3).more fun _ z => z
  | cons y l => exact ReprK.list h1 h2 h3 na (by simpa using k.length_eq) fun i z e => k.item i z (by simpa using e)
theorem shw_tup {h : Heap} {a : Addr} {its : List Value} {xs : List PyData} (p : IsTup h a its.toArray) (q : ShwL X h its xs) : Shw X h (.ref a) (.tuple xs) := by
  obtain ⟨o, h1, h2, n, h3⟩ := p
  obtain ⟨⟨as, r⟩, bs, m, k⟩ := q
  have rr : Reads h (.ref a) (.tuple xs) _ := .tuple h1 h2 h3 (by simpa using r)
  have na : a ∉ bs := not_mem_of_deeper rr (by simp only [PyData.depth]; omega) m
  refine ⟨⟨_, rr⟩, a :: bs, ReadAtMost.cons rr (by simp only [PyData.depth]; omega) m, ?_⟩
  simp only [PyData.depth, PyData.shown]
  exact ReprK.tuple h1 h2 h3 na (by simpa using k)
/-- a dict's entries -/
theorem shw_dict {h : Heap} {a : Addr} {o : Obj} {es : Array DictEntry} {n : Nat} {kvs : List (PyData × PyData)} (h1 : h.get? a = some o) (h2 : o.cls = .type "dict") (h3 : o.data = .dict es n) (lo : (a == sysModules) = false)
    (q1 : ShwL X h (es.toList.map (·.key)) (kvs.map (·.1))) (q2 : ShwL X h (es.toList.map (·.val)) (kvs.map (·.2))) : Shw X h (.ref a) (.dict kvs) := by
  obtain ⟨⟨as, r⟩, bs, m, k⟩ := q1
  obtain ⟨⟨as2, r2⟩, bs2, m2, k2⟩ := q2
  have rr : Reads h (.ref a) (.dict kvs) _ := .dict h1 h2 h3 r r2
  have mm : ReadAtMost h (PyData.depthKv kvs) (bs ++ bs2) := (m.mono (PyData.depthAll_keys_le kvs)).append (m2.mono (PyData.depthAll_vals_le kvs))
  have na : a ∉ bs ++ bs2 := not_mem_of_deeper rr (by simp only [PyData.depth]; omega) mm
  refine ⟨⟨_, rr⟩, a :: (bs ++ bs2), ReadAtMost.cons rr (by simp only [PyData.depth]; omega) mm, ?_⟩
  simp only [PyData.depth, PyData.shown, PyData.shownKv_eq]
  have kk := k.more_le (as' := bs ++ bs2) (fun z hz => List.mem_append_left _ hz) (PyData.depthAll_keys_le kvs)
  have vv := k2.more_le (as' := bs ++ bs2) (fun z hz => List.mem_append_right _ hz) (PyData.depthAll_vals_le kvs)
  exact ReprK.dict h1 h2 h3 lo na (ReprEntriesK.of_two es.toList _ _ kk vv)
theorem keyDat {k : Key} {v : Value} (h : keyIs k v = true) {hp : Heap} (hs : (match k with | .inl i => PyData.int i | .inr z => PyData.str z).showable = true) (hz : (match k with | .inl i => PyData.int i | .inr z => PyData.str z).shown.length ≤ sizeLine) :
    Shw X hp v (match k with | .inl i => PyData.int i | .inr z => PyData.str z) := by
  rcases keyIs_shape h with ⟨i, t, rfl, rfl⟩ | ⟨z, t, rfl, rfl⟩
  · exact ⟨⟨_, .int i t⟩, [], fun _ q => (by cases q), by simp only [PyData.shown]; exact .of_is (ReprIs.int t (by simpa [PyData.showable] using hs)) _ _ _⟩
  · exact ⟨⟨_, .str z t⟩, [], fun _ q => (by cases q), by simp only [PyData.shown]; exact .of_is (ReprIs.str z t (by simpa only [PyData.shown] using hz)) _ _ _⟩
mutual
theorem shw_of (I : Inv X pins σ H s) (e : Ex F H) : ∀ (d : D) (v : V) (u : Value) (x : PyData), Rep X.K F v d → RelV v u → d.pe = some x → x.showable = true → x.shown.length ≤ sizeLine → Shw X s.heap u x
  | .non, _, _, _, r, q, h, _, _ => by
    cases r; cases q; cases h
    exact ⟨⟨_, .none⟩, [], fun _ z => (by cases z), by simp only [PyData.shown]; exact .of_is ReprIs.none _ _ _⟩
  | .bl b, _, _, _, r, q, h, _, _ => by
    cases r; cases q; cases h
    exact ⟨⟨_, .bool b⟩, [], fun _ z => (by cases z), by simp only [PyData.shown]; exact .of_is (ReprIs.bool b) _ _ _⟩
  | .int i, _, _, _, r, q, h, hs, _ => by
    cases r; obtain ⟨t, rfl⟩ := q; cases h
    exact ⟨⟨_, .int i t⟩, [], fun _ z => (by cases z), by simp only [PyData.shown]; exact .of_is (ReprIs.int t (by simpa [PyData.showable] using hs)) _ _ _⟩
  | .str z, _, _, _, r, q, h, _, hz => by
    cases r; obtain ⟨t, rfl⟩ := q; cases h
    exact ⟨⟨_, .str z t⟩, [], fun _ q => (by cases q), by simp only [PyData.shown]; exact .of_is (ReprIs.str z t (by simpa only [PyData.shown] using hz)) _ _ _⟩
  | .lst ds, _, _, _, r, q, h, hs, hz => by
    cases r with
    | lst h1 h2 =>
      cases q
      simp only [D.pe] at h
      cases g : peL ds with
      | none => rw [g] at h; cases h
      | some xs =>
        rw [g] at h; cases h
        obtain ⟨its, rv, pl, _⟩ := I.list (SqL.of (e _ _ h1))
        exact shw_list pl (shwL_of I e ds _ its xs h2 rv g (by simpa [PyData.showable] using hs) fun t ht => Nat.le_trans (shown_memL ht) hz)
  | .tup ds, _, _, _, r, q, h, hs, hz => by
    cases r with
    | tup h1 h2 =>
      cases q
      simp only [D.pe] at h
      cases g : peL ds with
      | none => rw [g] at h; cases h
      | some xs =>
        rw [g] at h; cases h
        obtain ⟨its, rv, pl, _⟩ := I.tuple (h1.sq e)
        exact shw_tup pl (shwL_of I e ds _ its xs h2 rv g (by simpa [PyData.showable] using hs) fun t ht => Nat.le_trans (shown_memT ht) hz)
  | .dk es, _, _, _, r, q, h, hs, hz => by
    cases r with
    | dk h1 h2 =>
      cases q
      simp only [D.pe] at h
      cases g : peK es with
      | none => rw [g] at h; cases h
      | some xs =>
        rw [g] at h; cases h
        obtain ⟨_, lo, vs, kv, o, ens, ep, a1, a2, a3, a4, a5, a6⟩ := dk_of I.hok (e _ _ h1)
        obtain ⟨s1, s2⟩ := PyData.showableKv_split xs (by simpa [PyData.showable] using hs)
        have hz' : (dictText (PyData.shownKv xs)).length ≤ sizeLine := by simpa only [PyData.shown] using hz
        obtain ⟨k1, k2⟩ := shwK_of I e es _ vs ens.toList xs h2 kv a5 g s1 s2 (fun t ht => let ⟨p, hp, hl⟩ := PyData.shownKv_key_le xs t ht; Nat.le_trans hl (Nat.le_trans (dictText_mem_le hp) hz'))
          (fun t ht => let ⟨p, hp, hl⟩ := PyData.shownKv_val_le xs t ht; Nat.le_trans hl (Nat.le_trans (dictText_mem_le hp) hz'))
        exact shw_dict a1 a2.1 a3 lo k1 k2
  | .scr _, _, _, _, _, _, h, _, _ => by simp [D.pe] at h
  | .ce _, _, _, _, _, _, h, _, _ => by simp [D.pe] at h
theorem shwL_of (I : Inv X pins σ H s) (e : Ex F H) : ∀ (ds : List D) (vs : List V) (us : List Value) (xs : List PyData), RepL X.K F vs ds → Vals vs us → peL ds = some xs → PyData.showableAll xs = true → (∀ t ∈ PyData.shownAll xs, t.length ≤ sizeLine) → ShwL X s.heap us xs
  | [], _, _, _, r, q, h, _, _ => by
    cases r; cases q
    simp only [peL] at h
    cases h
    exact .nil
  | d :: ds, _, _, _, r, q, h, hs, hz => by
    cases r with
    | cons r1 r2 =>
      cases q with
      | cons q1 q2 =>
        unfold peL at h
        split at h
        · rename_i g1 g2
          cases h
          simp only [PyData.showableAll, Bool.and_eq_true] at hs
          simp only [PyData.shownAll] at hz
          exact ShwL.cons (shw_of I e d _ _ _ r1 q1 g1 hs.1 (hz _ (List.mem_cons_self ..))) (shwL_of I e ds _ _ _ r2 q2 g2 hs.2 fun t ht => hz t (List.mem_cons_of_mem _ ht))
        · cases h
theorem shwK_of (I : Inv X pins σ H s) (e : Ex F H) : ∀ (es : List (Key × D)) (kvs : List (Key × V)) (vs : List (Key × Value)) (ens : List DictEntry) (xs : List (PyData × PyData)), RepK X.K F kvs es → KV kvs vs → Pairs (mixKind X.prog X.w) ens vs → peK es = some xs →
    PyData.showableAll (xs.map (·.1)) = true → PyData.showableAll (xs.map (·.2)) = true → (∀ t ∈ PyData.shownAll (xs.map (·.1)), t.length ≤ sizeLine) → (∀ t ∈ PyData.shownAll (xs.map (·.2)), t.length ≤ sizeLine) →
    ShwL X s.heap (ens.map (·.key)) (xs.map (·.1)) ∧ ShwL X s.heap (ens.map (·.val)) (xs.map (·.2))
  | [], _, _, _, _, r, q, p, h, _, _, _, _ => by
    cases r; cases q; cases p
    simp only [peK] at h
    cases h
    exact ⟨.nil, .nil⟩
  | (k, d) :: es, _, _, _, _, r, q, p, h, s1, s2, z1, z2 => by
    cases r with
    | cons r1 r2 =>
      cases q with
      | cons q1 q2 =>
        cases p with
        | cons p1 p2 p3 =>
          unfold peK at h
          split at h
          · rename_i g1 g2
            cases h
            simp only [List.map_cons, PyData.showableAll, Bool.and_eq_true] at s1 s2
            simp only [List.map_cons, PyData.shownAll] at z1 z2
            obtain ⟨i1, i2⟩ := shwK_of I e es _ _ _ _ r2 q2 p3 g2 s1.2 s2.2 (fun t ht => z1 t (List.mem_cons_of_mem _ ht)) (fun t ht => z2 t (List.mem_cons_of_mem _ ht))
            obtain ⟨q11, q12⟩ := q1
            have e1 : k = _ := q11
            subst e1
            refine ⟨ShwL.cons (keyDat p1 s1.1 (z1 _ (List.mem_cons_self ..))) i1, ShwL.cons ?_ i2⟩
            show Shw X s.heap (DictEntry.val _) _
            rw [p2]
            exact shw_of I e d _ _ _ r1 q12 g1 s2.1 (z2 _ (List.mem_cons_self ..))
          · cases h
end
/-- repr(x), what x is told by its tree -/
def rRepE (K : PySem.W.Frag) : List V → Hp → VK → Prop := fun xs H Q => ∃ v d F x, xs = [v] ∧ Ex F H ∧ Rep K F v d ∧ D.pe d = some x ∧ x.showable = true ∧ x.depth ≤ 64 ∧ x.shown.length ≤ sizeLine ∧ Q (.str x.shown) H
theorem call_repE (hg : X.A.guards = some []) (hu : X.A.units + 200 < cLine) : CallR X (.builtin "repr") (rRepE X.K) := by
  intro pins s σ H xs us Q I r h
  obtain ⟨v, d, F, x, rfl, ex, rd, hp, h1, h3, h4, q⟩ := h
  obtain ⟨u, rfl, r1⟩ := vals1 r
  have fin : ∀ (h' : Heap) (t tk : Tok), (∀ b o, s.heap.get? b = some o → h'.get? b = some o) → EP X pins σ Q (.str x.shown t) { s with heap := h', toks := tk } := fun h' t tk k => ⟨.str _, H, (I.kept (t' := tk) k), ⟨t, rfl⟩, q⟩
  have hu2 : ∀ n, n ≤ 64 → X.A.in1.units + n < cLine := fun n hn => by show X.A.units + 1 + n < cLine; omega
  cases d with
  | non =>
    cases rd; cases r1; cases hp
    exact PySem.call_repr_gives (PySem.typeIs_none s) PySem.F.slot_NoneType_repr PySem.F.entry_NoneType_repr (PySem.F.args_NoneType_repr_1 _) gives_none_repr (by simpa [PyData.shown] using fin s.heap _ _ fun _ _ e => e) rfl (by decide)
  | bl b =>
    cases rd; cases r1; cases hp
    exact PySem.call_repr_gives (PySem.typeIs_bool s b) PySem.F.slot_bool_repr PySem.F.entry_bool_repr (PySem.F.args_bool_repr_1 _) (gives_bool_repr b) (by simpa [PyData.shown] using fin s.heap _ _ fun _ _ e => e) rfl (by cases b <;> decide)
  | int i =>
    cases rd; obtain ⟨t, rfl⟩ := r1; cases hp
    exact PySem.P.repr_of_int (by simpa [PyData.showable] using h1) (by simpa [PyData.shown] using fin s.heap _ _ fun _ _ e => e)
  | str z =>
    cases rd; obtain ⟨t, rfl⟩ := r1; cases hp
    exact PySem.call_repr_gives (PySem.typeIs_str s z t) PySem.F.slot_str_repr PySem.F.entry_str_repr (PySem.F.args_str_repr_1 _) (gives_str_repr z t) (by simpa [PyData.shown] using fin s.heap _ _ fun _ _ e => e) rfl (by simpa [PyData.shown] using h4)
  | lst ds =>
    cases rd with
    | lst g1 g2 =>
      cases r1
      simp only [D.pe] at hp
      cases g : peL ds with
      | none => rw [g] at hp; cases hp
      | some xs =>
        rw [g] at hp; cases hp
        obtain ⟨its, rv, ⟨o, n, a1, a2, a3, a4⟩, _⟩ := I.list (SqL.of (ex _ _ g1))
        have sl := shwL_of I ex ds _ its xs g2 rv g (by simpa [PyData.showable] using h1) fun t ht => Nat.le_trans (shown_memL ht) h4
        obtain ⟨⟨as, rr⟩, bs, m, k⟩ := sl
        have rr2 : Reads s.heap (.ref _) (.list xs) _ := .list a1 a2 a4 (by simpa using rr)
        have na := not_mem_of_deeper rr2 (by simp only [PyData.depth]; omega) m
        simp only [PyData.depth] at h3
        simp only [PyData.shown] at fin h4
        refine call_repr_slot (by omega) ⟨o, a1, a2⟩ PySem.F.slot_list_repr.toG ?_
        cases its with
        | nil =>
          have rr' : ReadsAll s.heap [] xs as := rr
          cases rr'
          simp only [PyData.shownAll, listText_nil] at fin
          exact call_list_repr_empty ⟨o, a1, a2⟩ a1 a4 ⟨_, _, rfl, fin s.heap _ _ fun _ _ e => e⟩
        | cons y l => exact call_list_reprK a1 a2 a4 na (by simpa using k.length_eq) (fun i z e => k.item i z (by simpa using e)) (show X.A.in1.guards = some [] from hg) (fun b _ => Clear.nil b) (hu2 _ h3) (fun _ _ e => e) (fun h' t tk kp => ⟨_, _, rfl, fin h' t tk kp⟩) h4
  | tup ds =>
    cases rd with
    | tup g1 g2 =>
      cases r1
      simp only [D.pe] at hp
      cases g : peL ds with
      | none => rw [g] at hp; cases hp
      | some xs =>
        rw [g] at hp; cases hp
        obtain ⟨its, rv, ⟨o, a1, a2, n, a4⟩, _⟩ := I.tuple (g1.sq ex)
        have sl := shwL_of I ex ds _ its xs g2 rv g (by simpa [PyData.showable] using h1) fun t ht => Nat.le_trans (shown_memT ht) h4
        obtain ⟨⟨as, rr⟩, bs, m, k⟩ := sl
        have rr2 : Reads s.heap (.ref _) (.tuple xs) _ := .tuple a1 a2 a4 (by simpa using rr)
        have na := not_mem_of_deeper rr2 (by simp only [PyData.depth]; omega) m
        simp only [PyData.depth] at h3
        simp only [PyData.shown] at fin h4
        refine call_repr_slot (by omega) ⟨o, a1, a2⟩ PySem.F.slot_tuple_repr ?_
        exact call_tuple_reprK a1 a2 a4 na (by simpa using k) (show X.A.in1.guards = some [] from hg) (fun b _ => Clear.nil b) (hu2 _ h3) (fun _ _ e => e) (fun h' t tk kp => ⟨_, _, rfl, fin h' t tk kp⟩) h4
  | dk es =>
    cases rd with
    | dk g1 g2 =>
      cases r1
      simp only [D.pe] at hp
      cases g : peK es with
      | none => rw [g] at hp; cases hp
      | some xs =>
        rw [g] at hp; cases hp
        obtain ⟨_, lo, vs, kv, o, ens, ep, a1, a2, a3, a4, a5, a6⟩ := dk_of I.hok (ex _ _ g1)
        obtain ⟨s1, s2⟩ := PyData.showableKv_split xs (by simpa [PyData.showable] using h1)
        have hz' : (dictText (PyData.shownKv xs)).length ≤ sizeLine := by simpa only [PyData.shown] using h4
        obtain ⟨⟨⟨as, r1⟩, b1, m1, k1⟩, ⟨as2, r2⟩, b2, m2, k2⟩ := shwK_of I ex es _ vs ens.toList xs g2 kv a5 g s1 s2 (fun t ht => let ⟨p, hp, hl⟩ := PyData.shownKv_key_le xs t ht; Nat.le_trans hl (Nat.le_trans (dictText_mem_le hp) hz'))
          (fun t ht => let ⟨p, hp, hl⟩ := PyData.shownKv_val_le xs t ht; Nat.le_trans hl (Nat.le_trans (dictText_mem_le hp) hz'))
        have rr : Reads s.heap (.ref _) (.dict xs) _ := .dict a1 a2.1 a3 r1 r2
        have mm : ReadAtMost s.heap (PyData.depthKv xs) (b1 ++ b2) := (m1.mono (PyData.depthAll_keys_le xs)).append (m2.mono (PyData.depthAll_vals_le xs))
        have na := not_mem_of_deeper rr (by simp only [PyData.depth]; omega) mm
        have kk := k1.more_le (as' := b1 ++ b2) (fun z hz => List.mem_append_left _ hz) (PyData.depthAll_keys_le xs)
        have vv := k2.more_le (as' := b1 ++ b2) (fun z hz => List.mem_append_right _ hz) (PyData.depthAll_vals_le xs)
        simp only [PyData.depth] at h3
        simp only [PyData.shown, PyData.shownKv_eq] at fin
        refine call_repr_slot (by omega) ⟨o, a1, a2.1⟩ PySem.F.slot_dict_repr ?_
        exact call_dict_reprK a1 a2.1 a3 lo na (ReprEntriesK.of_two ens.toList _ _ kk vv) (show X.A.in1.guards = some [] from hg) (fun b _ => Clear.nil b) (hu2 _ h3) (fun _ _ e => e) (fun h' t tk kp => ⟨_, _, rfl, fin h' t tk kp⟩) (by rw [← PyData.shownKv_eq]; exact hz')
  | scr ns => simp [D.pe] at hp
  | ce p => simp [D.pe] at hp
def aRepr : ASp := fun ds C P => (∃ d x, ds = [d] ∧ D.pe d = some x ∧ x.showable = true ∧ x.depth ≤ 64 ∧ x.shown.length ≤ sizeLine ∧ P (.str x.shown) C) ∨ aReprC ds C P
theorem ac_repr (hg : X.A.guards = some []) (hu : X.A.units + 200 < cLine) (hK : X.K = K := by rfl) : ACa B X (.builtin "repr") (fun vs H Q => rRepE K vs H Q ∨ rRep K vs H Q) aRepr := by
  subst hK
  refine ⟨(call_repE hg hu).or (call_rep hg hu), ?_⟩
  intro vs ds F C R H Q P hS r h k
  rcases h with ⟨d, x, rfl, h1, h2, h3, h4, h5⟩ | h
  · cases r with
    | cons r1 r2 =>
      cases r2
      exact .inl ⟨_, d, F, x, rfl, hS.ex, r1, h1, h2, h3, h4, k _ _ F C H (Ex.refl F) hS (.str _) h5⟩
  · exact .inr ((ac_reprC (B := B) hg hu).sim vs ds F C R H Q P hS r h k)
end
def okKey : Key → Bool
  | .inl i => decide (i.natAbs.log2 < 1900)
  | .inr x => x.cps.all (· < 0x110000)
def datKey : Key → PyData
  | .inl i => .int i
  | .inr x => .str x
def blkKey : Key → Nat
  | .inl _ => 0
  | .inr x => x.length
mutual
/-- no cells within; texts of signs; numbers of few figures -/
def okR : D → Nat → Bool
  | .non, _ => true
  | .bl _, _ => true
  | .int i, _ => decide (i.natAbs.log2 < 1900)
  | .str x, _ => x.cps.all (· < 0x110000)
  | .lst ds, n + 1 => okRs ds n
  | .tup ds, n + 1 => okRs ds n
  | .dk es, n + 1 => okRk es n
  | _, _ => false
def okRs : List D → Nat → Bool
  | [], _ => true
  | d :: ds, n => okR d n && okRs ds n
def okRk : List (Key × D) → Nat → Bool
  | [], _ => true
  | (k, d) :: es, n => okKey k && okR d n && okRk es n
end
mutual
def blk : D → Nat
  | .str x => x.length
  | .lst ds => blks ds
  | .tup ds => blks ds
  | .dk es => blkk es
  | _ => 0
def blks : List D → Nat
  | [] => 0
  | d :: ds => blk d + 1 + blks ds
def blkk : List (Key × D) → Nat
  | [] => 0
  | (k, d) :: es => blkKey k + blk d + 2 + blkk es
end
theorem okRs_all {ds : List D} {n : Nat} : okRs ds n = true ↔ ∀ d ∈ ds, okR d n = true := by
  induction ds with
  | nil => simp [okRs]
  | cons d ds ih => simp [okRs, ih]
theorem int_len (i : Int) : (Str.ofString (toString i)).length ≤ i.natAbs.log2 + 3 := by
  rw [PySem.ofString_length]
  exact Nat.le_succ_of_le (PySem.int_text_length_le (a := i) (k := i.natAbs.log2 + 1) (by omega) (by omega))
theorem short_int {i : Int} (h : i.natAbs.log2 < 1900) : (PyData.shown (.int i)).length ≤ 1922 := by
  have := int_len i
  simp only [PyData.shown]
  omega
theorem short_str {x : Str} (h : x.cps.all (· < 0x110000) = true) : (PyData.str x).leavesShort 1922 = true := by
  simp only [PyData.leavesShort, List.all_eq_true, decide_eq_true_eq]
  intro c hc
  simp only [Array.all_eq_true, decide_eq_true_eq] at h
  obtain ⟨i, hi, rfl⟩ := List.getElem_of_mem hc
  have := h i (by simpa using hi)
  simp only [Array.getElem_toList]
  omega
theorem okKey_dat {k : Key} (h : okKey k = true) : (datKey k).showable = true ∧ (datKey k).depth = 0 ∧ (datKey k).leavesShort 1922 = true ∧ (datKey k).bulk = blkKey k := by
  cases k with
  | inl i =>
    simp only [okKey, decide_eq_true_eq] at h
    exact ⟨by simp only [datKey, PyData.showable, decide_eq_true_eq]; omega, by simp [datKey, PyData.depth], by simp only [datKey, PyData.leavesShort, decide_eq_true_eq]; exact short_int h, by simp [datKey, PyData.bulk, blkKey]⟩
  | inr x => exact ⟨by simp [datKey, PyData.showable], by simp [datKey, PyData.depth], short_str h, by simp [datKey, PyData.bulk, blkKey]; rfl⟩
mutual
theorem okR_pe : ∀ (d : D) (n : Nat), okR d n = true → ∃ x, d.pe = some x ∧ x.showable = true ∧ x.depth ≤ n ∧ x.leavesShort 1922 = true ∧ x.bulk = blk d
  | .non, n, _ => ⟨.none, by simp [D.pe], by simp [PyData.showable], by simp [PyData.depth], by simp [PyData.leavesShort], by simp [PyData.bulk, blk]⟩
  | .bl b, n, _ => ⟨.bool b, by simp [D.pe], by simp [PyData.showable], by simp [PyData.depth], by simp [PyData.leavesShort], by simp [PyData.bulk, blk]⟩
  | .int i, n, h => by
    simp only [okR, decide_eq_true_eq] at h
    exact ⟨.int i, by simp [D.pe], by simp only [PyData.showable, decide_eq_true_eq]; omega, by simp [PyData.depth], by simp only [PyData.leavesShort, decide_eq_true_eq]; exact short_int h, by simp [PyData.bulk, blk]⟩
  | .str x, n, h => ⟨.str x, by simp [D.pe], by simp [PyData.showable], by simp [PyData.depth], short_str (by simpa [okR] using h), by simp [PyData.bulk, blk]; rfl⟩
  | .lst ds, 0, h => by simp [okR] at h
  | .lst ds, n + 1, h => by
    obtain ⟨xs, h1, h2, h3, h4, h5⟩ := okRs_pe ds n (by simpa [okR] using h)
    exact ⟨.list xs, by simp [D.pe, h1], by simpa [PyData.showable] using h2, by simp [PyData.depth]; omega, by simpa [PyData.leavesShort] using h4, by simp [PyData.bulk, blk, h5]⟩
  | .tup ds, 0, h => by simp [okR] at h
  | .tup ds, n + 1, h => by
    obtain ⟨xs, h1, h2, h3, h4, h5⟩ := okRs_pe ds n (by simpa [okR] using h)
    exact ⟨.tuple xs, by simp [D.pe, h1], by simpa [PyData.showable] using h2, by simp [PyData.depth]; omega, by simpa [PyData.leavesShort] using h4, by simp [PyData.bulk, blk, h5]⟩
  | .dk es, 0, h => by simp [okR] at h
  | .dk es, n + 1, h => by
    obtain ⟨xs, h1, h2, h3, h4, h5⟩ := okRk_pe es n (by simpa [okR] using h)
    exact ⟨.dict xs, by simp [D.pe, h1], by simpa [PyData.showable] using h2, by simp [PyData.depth]; omega, by simpa [PyData.leavesShort] using h4, by simp [PyData.bulk, blk, h5]⟩
  | .scr _, _, h => by simp [okR] at h
  | .ce _, _, h => by simp [okR] at h
theorem okRs_pe : ∀ (ds : List D) (n : Nat), okRs ds n = true → ∃ xs, peL ds = some xs ∧ PyData.showableAll xs = true ∧ PyData.depthAll xs ≤ n ∧ PyData.leavesShortAll 1922 xs = true ∧ PyData.bulkAll xs = blks ds
  | [], n, _ => ⟨[], by simp [peL], by simp [PyData.showableAll], by simp [PyData.depthAll], by simp [PyData.leavesShortAll], by simp [PyData.bulkAll, blks]⟩
  | d :: ds, n, h => by
    simp only [okRs, Bool.and_eq_true] at h
    obtain ⟨x, a1, a2, a3, a4, a5⟩ := okR_pe d n h.1
    obtain ⟨xs, b1, b2, b3, b4, b5⟩ := okRs_pe ds n h.2
    exact ⟨x :: xs, by simp [peL, a1, b1], by simp [PyData.showableAll, a2, b2], by simp [PyData.depthAll]; omega, by simp [PyData.leavesShortAll, a4, b4], by simp [PyData.bulkAll, blks, a5, b5]⟩
theorem okRk_pe : ∀ (es : List (Key × D)) (n : Nat), okRk es n = true → ∃ xs, peK es = some xs ∧ PyData.showableKv xs = true ∧ PyData.depthKv xs ≤ n ∧ PyData.leavesShortKv 1922 xs = true ∧ PyData.bulkKv xs = blkk es
  | [], n, _ => ⟨[], by simp [peK], by simp [PyData.showableKv], by simp [PyData.depthKv], by simp [PyData.leavesShortKv], by simp [PyData.bulkKv, blkk]⟩
  | (k, d) :: es, n, h => by
    simp only [okRk, Bool.and_eq_true] at h
    obtain ⟨c1, c2, c3, c4⟩ := okKey_dat h.1.1
    obtain ⟨x, a1, a2, a3, a4, a5⟩ := okR_pe d n h.1.2
    obtain ⟨xs, b1, b2, b3, b4, b5⟩ := okRk_pe es n h.2
    refine ⟨(datKey k, x) :: xs, ?_, by simp [PyData.showableKv, c1, a2, b2], by simp [PyData.depthKv, c2]; omega, by simp [PyData.leavesShortKv, c3, a4, b4], by simp [PyData.bulkKv, blkk, c4, a5, b5]⟩
    simp only [peK, a1, b1]
    cases k <;> rfl
end
/-- the text that repr tells of a tree -/
def shownE (d : D) : Str := match d.pe with | some x => x.shown | none => ""
theorem g_repr {C : AH} {P : D → AH → Prop} {d : D} (n : Nat) (h : okR d n = true) (hn : n ≤ 64) (hz : blk d ≤ 8000) (k : P (.str (shownE d)) C) : aRepr [d] C P := by
  obtain ⟨x, e, h1, h3, h4, h5⟩ := okR_pe d n h
  unfold shownE at k
  rw [e] at k
  refine .inl ⟨d, x, rfl, e, h1, by omega, ?_, k⟩
  have := PyData.shown_le_bulk 1922 (by decide) x h4
  rw [sizeLine_eq]
  rw [h5] at this
  omega
mutual
theorem okR_succ : ∀ (d : D) (n : Nat), okR d n = true → okR d (n + 1) = true
  | .non, _, _ => by simp [okR]
  | .bl _, _, _ => by simp [okR]
  | .int _, _, h => by simpa [okR] using h
  | .str _, _, h => by simpa [okR] using h
  | .lst ds, 0, h => by simp [okR] at h
  | .lst ds, n + 1, h => by
    simp only [okR] at h ⊢
    exact okRs_succ ds n h
  | .tup ds, 0, h => by simp [okR] at h
  | .tup ds, n + 1, h => by
    simp only [okR] at h ⊢
    exact okRs_succ ds n h
  | .dk es, 0, h => by simp [okR] at h
  | .dk es, n + 1, h => by
    simp only [okR] at h ⊢
    exact okRk_succ es n h
  | .scr _, _, h => by simp [okR] at h
  | .ce _, _, h => by simp [okR] at h
theorem okRs_succ : ∀ (ds : List D) (n : Nat), okRs ds n = true → okRs ds (n + 1) = true
  | [], _, _ => by simp [okRs]
  | d :: ds, n, h => by
    simp only [okRs, Bool.and_eq_true] at h ⊢
    exact ⟨okR_succ d n h.1, okRs_succ ds n h.2⟩
theorem okRk_succ : ∀ (ds : List (Key × D)) (n : Nat), okRk ds n = true → okRk ds (n + 1) = true
  | [], _, _ => by simp [okRk]
  | (k, d) :: ds, n, h => by
    simp only [okRk, Bool.and_eq_true] at h ⊢
    exact ⟨⟨h.1.1, okR_succ d n h.1.2⟩, okRk_succ ds n h.2⟩
end
theorem okR_mono {d : D} {n m : Nat} (h : okR d n = true) (hm : n ≤ m) : okR d m = true := by
  obtain ⟨k, rfl⟩ := Nat.le.dest hm
  clear hm
  induction k with
  | zero => exact h
  | succ k ih => exact okR_succ d _ ih
section
variable {X : Cx} {K : PySem.W.Frag}
/-- x is True -/
def aIsB (neg : Bool) : D → D → AH → (D → AH → Prop) → Prop := fun x y C P => match x, y with | .bl a, .bl b => P (.bl (if neg then !decide (a = b) else decide (a = b))) C | _, _ => False
abbrev aNotBl := aIsB true
theorem ao_isnotB : AOp B X (compareOp .IsNot) rNotB aNotBl := ⟨op_notBl, by
  intro v w d e F C R H Q P hS r1 r2 h k
  unfold aNotBl aIsB at h
  split at h
  · cases r1; cases r2
    exact ⟨_, _, rfl, rfl, k _ _ F C H (Ex.refl F) hS (.bl _) h⟩
  · exact h.elim⟩
/-- a dict that is written, and never changed -/
def aDispF (l : List (Key × AE')) : AE' := fun s C P => aPairs l s C fun es C1 => es.length ≤ 15 ∧ P (.dk (mergeD [] es)) C1
theorem sim_dispF {trs : List (TE × TE)} {l : List (Key × AE')} (h : SimPs B K trs l) : SimE B K (tDisp trs) (aDispF l) := by
  intro σ s F C R H Q P hs hS h0 k p hp
  have hF := hS.freeF hp
  have hC := hS.freeC hp
  have hR := hS.freeR hp
  refine h σ s F C (upd R p (.dK [])) (upd H p (.dK [])) _ _ hs (hS.setR hF hC (hS.freeB hR) _) h0 fun es kvs F1 C1 H1 e1 S1 r1 h1 => ?_
  obtain ⟨h15, h1⟩ := h1
  obtain ⟨f1, c1, g1⟩ := S1.priv p _ upd_same
  refine ⟨g1, kvs, rfl, by rw [r1.length]; exact h15, ?_⟩
  have S2 := S1.setR f1 c1 (hS.freeB hR) (.dK (mergeK [] kvs))
  rw [upd_upd] at S2
  have eN := Ex.new (o := .dK (mergeK [] kvs)) f1
  exact k _ _ _ C1 _ (e1.trans eN) (S2.outF hR (hS.freeB hR)) (.dk upd_same ((RepK.merge r1 .nil).mono eN)) h1
theorem ae_dispF {pos : Pos} {keys : List (Option Expr)} {vals : List Expr} {trs : List (TE × TE)} {l : List (Key × AE')} (h : APs B X pos keys vals trs l) (hall : keys.all (·.isSome) = true := by rfl) (hl : keys.length = vals.length := by rfl) (h0 : keys ≠ [] := by simp) (h15 : keys.length ≤ 15 := by decide) : AE B X (.Dict keys vals pos) (tDisp trs) (aDispF l) :=
  ⟨pe_disp h.pps hall hl h0 h15, sim_dispF h.sim⟩
def aDict0F : AE' := fun _ C P => P (.dk []) C
theorem ae_dict0F {pos : Pos} : AE B X (.Dict [] [] pos) tDNewK aDict0F := ⟨pe_dnewK, fun σ s F C R H Q P hs hS h k p hp => by
  have eN := Ex.new (o := .dK []) (hS.freeF hp)
  exact k _ _ _ C _ eN (hS.newF hp _) (.dk upd_same .nil) h⟩
theorem sim_gnil : SimGs B K gNil aGNil := fun vs ds σ s F C R H Q P hs hS r h k => by
  unfold aGNil at h
  split at h
  · cases r
    exact ⟨rfl, k s σ F C H (Ex.refl F) hs hS h⟩
  · exact h.elim
theorem sim_gcons {g : TG} {r : TGs} {a : AG'} {b : AGs'} (h1 : SimG B K g a) (h2 : SimGs B K r b) : SimGs B K (gCons g r) (aGCons a b) := fun vs ds σ s F C R H Q P hs hS rr h k => by
  unfold aGCons at h
  split at h
  · cases rr with
    | cons r1 r2 =>
      refine ⟨_, _, rfl, ?_⟩
      refine h1 _ _ σ s F C R H _ _ hs hS r1 h fun s1 σ1 F1 C1 H1 e1 hs1 S1 q1 => ?_
      exact h2 _ _ σ1 s1 F1 C1 R H1 Q P hs1 S1 (r2.mono e1) q1 fun s2 σ2 F2 C2 H2 e2 => k s2 σ2 F2 C2 H2 (e1.trans e2)
  · exact h.elim
theorem sim_gtup {n : Nat} {t : TGs} {a : AGs'} (h : SimGs B K t a) : SimG B K (gTup K n t) (aGTup n a) := fun v d σ s F C R H Q P hs hS r h0 kk => by
  unfold aGTup at h0
  split at h0
  · cases r with
    | tup e q => exact ⟨_, _, rfl, e.sq hS.ex, by rw [q.length]; exact h0.1, h _ _ σ s F C R H Q P hs hS q h0.2 kk⟩
  · exact h0.elim
/-- xs[i], ys[j] = e -/
theorem as_set2 {o i o2 i2 e : Expr} {to ti to2 ti2 te : TE} {ao ai ao2 ai2 a : AE'} {p1 p2 p3 pos : Pos} {kk : Nat} (h : AE B X e te a) (ho : AE B X o to ao) (hi : AE B X i ti ai) (ho2 : AE B X o2 to2 ao2) (hi2 : AE B X i2 ti2 ai2) (hc : X.calm = true := by rfl)
    (hs : swapsWithSole [.Tuple [.Subscript o i p1, .Subscript o2 i2 p2] kk p3] e pos.line X.env = pure false := by rfl) (hw : swappedStores [.Tuple [.Subscript o i p1, .Subscript o2 i2 p2] kk p3] e X.env = pure none := by rfl)
    (h1 : (assignEach [.Tuple [.Subscript o i p1, .Subscript o2 i2 p2] kk p3] X.env).map (·.2) = [assign (.Tuple [.Subscript o i p1, .Subscript o2 i2 p2] kk p3) X.env] := by rfl)
    (hn : (assignEach [.Subscript o i p1, .Subscript o2 i2 p2] X.env).length = 2 := by rfl) (hst : (assignEach [.Subscript o i p1, .Subscript o2 i2 p2] X.env).findIdx? (·.1) = none := by rfl)
    (hs1 : (assignEach [.Subscript o i p1, .Subscript o2 i2 p2] X.env).map (·.2) = assign (.Subscript o i p1) X.env :: (assignEach [.Subscript o2 i2 p2] X.env).map (·.2) := by rfl) (hs2 : (assignEach [.Subscript o2 i2 p2] X.env).map (·.2) = assign (.Subscript o2 i2 p2) X.env :: (assignEach [] X.env).map (·.2) := by rfl)
    (ha : ∀ v, assign (.Subscript o i p1) X.env v = (do
      let ov ← holding [v] (eval o X.env)
      let iv ← holding [v, ov] (eval i X.env)
      standAt p1
      holding [v, ov, iv] (setItem ov iv v)
      release [v, ov, iv] []) := by intro _; rfl)
    (ha2 : ∀ v, assign (.Subscript o2 i2 p2) X.env v = (do
      let ov ← holding [v] (eval o2 X.env)
      let iv ← holding [v, ov] (eval i2 X.env)
      standAt p2
      holding [v, ov, iv] (setItem ov iv v)
      release [v, ov, iv] []) := by intro _; rfl) (hK : X.K = K := by rfl) :
    AS B X (.Assign [.Tuple [.Subscript o i p1, .Subscript o2 i2 p2] kk p3] e pos) (tAsg te (gTup K 2 (gCons (gSub to ti rSetL) (gCons (gSub to2 ti2 rSetL) gNil)))) (aAsg a (aGTup 2 (aGCons (aGSet ao ai) (aGCons (aGSet ao2 ai2) aGNil)))) := by
  subst hK
  exact ⟨ps_asg h.pe (pg_tup hc (pgs_cons (pg_sub ho.pe hi.pe set_list ha) (pgs_cons (pg_sub ho2.pe hi2.pe set_list ha2) pgs_nil hs2) hs1) hn hst) hs hw h1,
    sim_asg h.sim (sim_gtup (sim_gcons (sim_set ho.sim hi.sim) (sim_gcons (sim_set ho2.sim hi2.sim) sim_gnil)))⟩
end
end AL
namespace AL
open PySem PySem.Spec PyProof.Rows L2
variable {B : Bs}
def frzC (C : AH) (p : Addr) : Option Cell → D × AH
  | some (.lst us) => (.lst us, del C p)
  | some (.dk es) => (.dk es, del C p)
  | _ => (.ce p, C)
def frz1 (C : AH) : D → D × AH
  | .ce p => frzC C p (C p)
  | d => (d, C)
def frzL (C : AH) : List D → List D × AH
  | [] => ([], C)
  | d :: ds => ((frz1 C d).1 :: (frzL (frz1 C d).2 ds).1, (frzL (frz1 C d).2 ds).2)
section
variable {K : PySem.W.Frag}
theorem frz1_ce {C : AH} {p : Addr} {c : Option Cell} (e : C p = c) : frz1 C (.ce p) = frzC C p c := by
  show frzC C p (C p) = _
  rw [e]
theorem frz1_ok {F : Hp} {C : AH} {R H : Hp} (hS : Sat B K F C R H) (d : D) : ∃ F', Ex F F' ∧ Sat B K F' (frz1 C d).2 R H ∧ ∀ F'', Ex F' F'' → ∀ v, Rep K F'' v d → Rep K F'' v (frz1 C d).1 := by
  have same : ∃ F', Ex F F' ∧ Sat B K F' C R H ∧ ∀ F'', Ex F' F'' → ∀ v, Rep K F'' v d → Rep K F'' v d := ⟨F, Ex.refl F, hS, fun _ _ _ h => h⟩
  cases d with
  | ce p =>
    cases e : C p with
    | none =>
      rw [frz1_ce e]; exact same
    | some c =>
      rw [frz1_ce e]
      obtain ⟨hF, o, h1, h2⟩ := hS.cell p _ e
      cases c with
      | lst us =>
        refine ⟨upd F p o, Ex.new hF, hS.freeze e h1, fun F2 e2 v r => ?_⟩
        cases r
        cases h2 with
        | lst q => exact .lst (e2 _ _ upd_same) (q.mono ((Ex.new hF).trans e2))
      | dk us =>
        refine ⟨upd F p o, Ex.new hF, hS.freeze e h1, fun F2 e2 v r => ?_⟩
        cases r
        cases h2 with
        | dk q => exact .dk (e2 _ _ upd_same) (q.mono ((Ex.new hF).trans e2))
      | dn us => exact same
      | exc nm => exact same
      | dw lk us => exact same
      | ob nm fs => exact same
  | _ => exact same
theorem frzL_ok : ∀ (ds : List D) {F : Hp} {C : AH} {R H : Hp}, Sat B K F C R H → ∃ F', Ex F F' ∧ Sat B K F' (frzL C ds).2 R H ∧ ∀ F'', Ex F' F'' → ∀ vs, RepL K F'' vs ds → RepL K F'' vs (frzL C ds).1
  | [], F, _, _, _, hS => ⟨F, Ex.refl F, hS, fun _ _ _ h => h⟩
  | d :: ds, F, C, R, H, hS => by
    obtain ⟨F1, e1, S1, r1⟩ := frz1_ok hS d
    obtain ⟨F2, e2, S2, r2⟩ := frzL_ok ds S1
    refine ⟨F2, e1.trans e2, S2, fun F3 e3 vs h => ?_⟩
    cases h with
    | cons a b => exact .cons (r1 F3 (e2.trans e3) _ a) (r2 F3 e3 _ b)
/-- the cells in the list of a slot -/
def aFrzIn (i : Nat) (a : AS') : AS' := fun E s C => match s[i]? with
  | some (some (.lst ds)) => a E (s.set i (some (.lst (frzL C ds).1))) (frzL C ds).2
  | _ => False
theorem sim_frzIn {t : TS} {a : AS'} (i : Nat) (h : SimS B K t a) : SimS B K t (aFrzIn i a) := fun D' E σ s F C R H hE hs hS h0 => by
  unfold aFrzIn at h0
  split at h0
  · rename_i ds e
    obtain ⟨F1, e1, S1, r1⟩ := frzL_ok ds hS
    refine h D' E σ _ F1 _ R H (hE.mono e1) ((hs.mono e1).reset e fun v r => ?_) S1 h0
    cases r with
    | lst q1 q2 => exact .lst q1 (r1 F1 (Ex.refl F1) _ q2)
  · exact h0.elim
theorem ass_frzIn {X : Cx} {sts : List Stmt} {t : TS} {a : AS'} (i : Nat) (h : ASs B X sts t a) : ASs B X sts t (aFrzIn i a) := ⟨h.ps, sim_frzIn i h.sim⟩
end
theorem frzL_lists {C : AH} : ∀ (qs : List Addr) (us : List (List D)), us.length = qs.length → qs.Nodup → (∀ (i : Nat) q u, qs[i]? = some q → us[i]? = some u → C q = some (.lst u)) →
    (frzL C (qs.map D.ce)).1 = us.map D.lst ∧ (∀ p, p ∉ qs → (frzL C (qs.map D.ce)).2 p = C p) ∧ ∀ p, p ∈ qs → (frzL C (qs.map D.ce)).2 p = none := by
  intro qs
  induction qs generalizing C with
  | nil =>
    intro us hl _ _
    cases us with
    | nil => exact ⟨rfl, fun _ _ => rfl, fun _ h => by cases h⟩
    | cons _ _ => cases hl
  | cons q qs ih =>
    intro us hl hn h
    cases us with
    | nil => cases hl
    | cons u us =>
      have h0 := h 0 q u rfl rfl
      have hn1 := (List.nodup_cons.mp hn)
      have e1 : frz1 C (.ce q) = (.lst u, del C q) := frz1_ce h0
      have st := ih (C := del C q) us (by simpa using hl) hn1.2 fun i r w hr hw => by
        refine (del_other ?_ (h (i + 1) r w (by simpa using hr) (by simpa using hw)))
        intro z
        exact hn1.1 (z ▸ List.mem_of_getElem? hr)
      obtain ⟨s1, s2, s3⟩ := st
      have u1 : (frzL C (D.ce q :: qs.map D.ce)).1 = .lst u :: (frzL (del C q) (qs.map D.ce)).1 := by show (frz1 C (.ce q)).1 :: (frzL (frz1 C (.ce q)).2 _).1 = _; rw [e1]
      have u2 : (frzL C (D.ce q :: qs.map D.ce)).2 = (frzL (del C q) (qs.map D.ce)).2 := by show (frzL (frz1 C (.ce q)).2 _).2 = _; rw [e1]
      refine ⟨by rw [List.map_cons, u1, s1]; rfl, fun p hp => ?_, fun p hp => ?_⟩
      · rw [List.map_cons, u2, s2 p (fun z => hp (List.mem_cons_of_mem _ z))]
        unfold del
        rw [if_neg (fun z => hp (by rw [z]; exact List.mem_cons_self ..))]
      · rw [List.map_cons, u2]
        by_cases hq : p ∈ qs
        · exact s3 p hq
        · rw [s2 p hq]
          rcases List.mem_cons.mp hp with z | z
          · subst z; exact del_same
          · exact absurd z hq
theorem g_frzIn {a : AS'} {E : AEnds} {s : ASt} {C : AH} {i : Nat} {ds : List D} (h0 : s[i]? = some (some (.lst ds))) (h : a E (s.set i (some (.lst (frzL C ds).1))) (frzL C ds).2) : aFrzIn i a E s C := by
  unfold aFrzIn
  rw [h0]
  exact h
end AL
namespace AL
open PySem PySem.Spec PyProof.Rows L2
end AL
namespace AL
open PySem PySem.Spec PyProof.Rows L2
variable {B : Bs}
inductive Src where
  | ls (a : Addr) | tp (a : Addr) | tx (z : Str)
def Src.holds (K : PySem.W.Frag) (H : Hp) : Src → List V → Prop
  | .ls a, xs => SqL K H a xs
  | .tp a, xs => SqT K H a xs
  | .tx z, xs => xs = signsV z
def Src.ref : Src → Option Addr
  | .ls a => some a
  | .tp a => some a
  | .tx _ => none
section
variable {X : Cx} {pins : List (Addr × Obj)} {σ : L2.St} {H : Hp} {s : Shared}
theorem Src.inj (I : Inv X pins σ H s) : ∀ {x : Src} {xs ys : List V}, x.holds X.K H xs → x.holds X.K H ys → xs = ys
  | .ls a, _, _, h, g => I.list_inj h g
  | .tp a, _, _, h, g => I.tuple_inj h g
  | .tx z, _, _, h, g => h.trans g.symm
end
end AL
namespace AL
open PySem PySem.Spec PyProof.Rows L2
end AL
namespace AL
open PySem PySem.Spec PyProof.Rows L2
end AL
namespace AL
open PySem PySem.Spec PyProof.Rows L2
end AL
namespace AL
open PySem PySem.Spec PyProof.Rows L2
end AL
namespace AL
open PySem PySem.Spec PyProof.Rows L2
variable {B : Bs}
def ddS (σ : List Str) (v : Str) : List Str := if σ.any (· == v) then σ else σ ++ [v]
def dd (xs : List Str) : List Str := xs.foldl ddS []
/-- the signs of a text, as texts -/
def sgS (z : Str) : List Str := z.cps.toList.map fun c => ⟨#[c]⟩
section
variable {prog : Program} {w : World} {A : Around} {R : Result → Shared → Prop} {I : Addr} {fp wr : List Addr} {G : Array GenState → Array GenState → Prop} {n : Nat} {P : Nat → Value → Prop} {St : Nat → Shared → Prop}
abbrev SetS (prog : Program) (w : World) (h : Heap) (S : Addr) (xs : List Str) : Prop := h.SetOf (PySem.strKind prog w) S (fun k => (dd xs).any (· == k)) (dd xs).length
theorem SetS.keep {h h' : Heap} {S : Addr} {xs : List Str} (q : SetS prog w h S xs) (hk : ∀ o, h.get? S = some o → h'.get? S = some o) : SetS prog w h' S xs := by
  obtain ⟨o, es, ep, t, ho, r⟩ := q
  exact ⟨o, es, ep, t, hk _ ho, r⟩
end
end AL
namespace AL
open PySem PySem.Spec PyProof.Rows L2
variable {B : Bs}
section
variable {X : Cx} {K : PySem.W.Frag}
def aLenSet (a : AE') : AE' := fun s C P => a s C fun x C1 => match x with | .str z => z.length ≤ 4000 ∧ P (.int (dd (sgS z)).length) C1 | _ => False
end
section
variable {C : AH} {P : D → AH → Prop} {s : ASt} {e : AE'}
def kLenSet (P : D → AH → Prop) : D → AH → Prop := fun x C1 => match x with | .str z => z.length ≤ 4000 ∧ P (.int (dd (sgS z)).length) C1 | _ => False
theorem g_lenSet (h : e s C (kLenSet P)) : aLenSet e s C P := h
end
end AL
namespace AL
open PySem PySem.Spec PyProof.Rows L2
variable {B : Bs}
def tabAt : List (Str × Int) → Str → Option Int
  | [], _ => none
  | (x, i) :: q, z => if x = z then some i else tabAt q z
section
variable {X : Cx} {K : PySem.W.Frag} {x : Str} {d : Addr} {tab : List (Str × Int)} {e : Expr} {te : TE} {a : AE'} {p pos : Pos}
def aInTab (tab : List (Str × Int)) (neg : Bool) (a : AE') : AE' := fun s C P => a s C fun x C1 => match x with | .str z => P (.bl (if neg then !(tabAt tab z).isSome else (tabAt tab z).isSome)) C1 | _ => False
def aIxTab (tab : List (Str × Int)) (a : AE') : AE' := fun s C P => a s C fun x C1 => match x with | .str z => (match tabAt tab z with | some i => P (.int i) C1 | none => False) | _ => False
end
section
variable {C : AH} {P : D → AH → Prop} {s : ASt} {e : AE'} {tab : List (Str × Int)}
def kInTab (tab : List (Str × Int)) (neg : Bool) (P : D → AH → Prop) : D → AH → Prop := fun x C1 => match x with | .str z => P (.bl (if neg then !(tabAt tab z).isSome else (tabAt tab z).isSome)) C1 | _ => False
def kIxTab (tab : List (Str × Int)) (P : D → AH → Prop) : D → AH → Prop := fun x C1 => match x with | .str z => (match tabAt tab z with | some i => P (.int i) C1 | none => False) | _ => False
theorem g_inTab {neg : Bool} (h : e s C (kInTab tab neg P)) : aInTab tab neg e s C P := h
theorem g_kInTab {z : Str} (h : P (.bl (tabAt tab z).isSome) C) : kInTab tab false P (.str z) C := h
theorem g_kNotInTab {z : Str} (h : P (.bl (!(tabAt tab z).isSome)) C) : kInTab tab true P (.str z) C := h
theorem g_ixTab (h : e s C (kIxTab tab P)) : aIxTab tab e s C P := h
end
end AL
namespace AL
open PySem PySem.Spec PyProof.Rows L2
variable {B : Bs}
section
variable {X : Cx} {K : PySem.W.Frag}
/-- the right side is [] -/
def aEqNil (neg : Bool) : D → D → AH → (D → AH → Prop) → Prop := fun x y C P => match asLr C x, y with
  | some us, .lst [] => P (.bl (if neg then !us.isEmpty else us.isEmpty)) C
  | _, _ => False
end
section
variable {C : AH} {P : D → AH → Prop}
theorem g_eqNil {us : List D} (h : P (.bl us.isEmpty) C) : aEqNil false (.lst us) (.lst []) C P := h
theorem g_neNil {us : List D} (h : P (.bl (!us.isEmpty)) C) : aEqNil true (.lst us) (.lst []) C P := h
end
section
variable {C : AH} {P : D → AH → Prop} {s : ASt} {a b c : AE'} {r r' : D → D → AH → (D → AH → Prop) → Prop}
def kChain (r' : D → D → AH → (D → AH → Prop) → Prop) (c : AE') (y : D) (s : ASt) (P : D → AH → Prop) : D → AH → Prop := fun z C3 => match z with
  | .bl true => c s C3 fun w C4 => r' y w C4 P
  | .bl false => P (.bl false) C3
  | _ => False
theorem g_chain (h : a s C fun x C1 => b s C1 fun y C2 => r x y C2 (kChain r' c y s P)) : aChain r r' a b c s C P := h
theorem g_kChain {y : D} {k : Bool} (h1 : k = true → c s C fun w C4 => r' y w C4 P) (h2 : k = false → P (.bl false) C) : kChain r' c y s P (.bl k) C := by
  cases k
  · exact h2 rfl
  · exact h1 rfl
end
end AL
namespace AL
open PySem PySem.Spec PyProof.Rows L2
variable {B : Bs}
section
variable {X : Cx} {K : PySem.W.Frag}
def keyD : Key → D
  | .inl i => .int i
  | .inr x => .str x
end
end AL
namespace AL
open PySem PySem.Spec PyProof.Rows L2
end AL
namespace AL
open PySem PySem.Spec PyProof.Rows L2
variable {B : Bs}
section
variable {X : Cx} {K : PySem.W.Frag}
def rSortLI (K : PySem.W.Frag) : List V → Hp → VK → Prop := fun vs H Q => ∃ (a : Addr) (ns : List Int), vs = [V.ref a] ∧ SqL K H a (ns.map V.int) ∧
  ∀ (ns' : List Int) (p : Addr), ns'.Perm ns → ns'.Pairwise (· ≤ ·) → H p = none → Q (.ref p) (upd H p (.lst (ns'.map V.int)))
theorem call_sortLI : CallR X (.builtin "sorted") (rSortLI X.K) := by
  intro pins s σ H vs us Q I r h
  obtain ⟨a, ns, rfl, hs, q⟩ := h
  obtain ⟨its, rv, hl, hz⟩ := I.list hs
  rw [Vals.ref1 r]
  have hi := rv.ints
  have hz' : its.length ≤ sizeLine := by rw [← rv.length]; exact hz
  refine PyProof.Rows.sorted_intsAny hl.isList hi hz' fun out ns' h1 h2 h3 => ?_
  obtain ⟨ep, he'⟩ := PyProof.Rows.sortedAll_at s.heap its out
  have hlen : (ns'.map V.int).length ≤ sizeLine := by rw [List.length_map, h2.length_eq, ← List.length_map (f := V.int)]; exact hz
  exact ⟨.ref _, upd H (s.heap.objs.size + 1) (.lst (ns'.map V.int)), I.laid (t' := s.toks) (fun _ _ => PyProof.Rows.sortedAll_old) (Nat.le_succ _) ⟨hlen, out.toList, ep, vals_of_ints h1, he'⟩, rfl, q ns' _ h2 h3 (I.hok.fresh (Nat.le_succ _))⟩
def aSortL (m : Bool) : ASp := fun ds C P => match ds with
  | [d] => ∃ (es : List D) (ks : List Int), asLr C d = some es ∧ es = ks.map D.int ∧ ∀ ys : List Int, ys.Perm ks → ys.Pairwise (· ≤ ·) → if m then ∀ p, C p = none → P (.ce p) (put C p (.lst (ys.map D.int))) else P (.lst (ys.map D.int)) C
  | _ => False
theorem ac_sortL {m : Bool} (hK : X.K = K := by rfl) : ACa B X (.builtin "sorted") (rSortLI K) (aSortL m) := by
  subst hK
  exact ⟨call_sortLI, by
  intro vs ds F C R H Q P hS r h k
  unfold aSortL at h
  split at h
  · cases r with
    | cons r1 r2 =>
      cases r2
      obtain ⟨es, ks, h1, h2, h3⟩ := h
      subst h2
      obtain ⟨a, kvs, rfl, g1, g2⟩ := asLr_ok hS r1 h1
      rw [g2.ofInts] at g1
      refine ⟨a, ks, rfl, g1, fun ys p e1 e2 hp => ?_⟩
      have h4 := h3 ys e1 e2
      cases m with
      | true => exact k _ _ _ _ _ (Ex.refl F) (hS.newC hp (.lst (.ints ys))) (.ce p) (h4 p (hS.freeC hp))
      | false =>
        have e := Ex.new (o := .lst (ys.map V.int)) (hS.freeF hp)
        exact k _ _ _ C _ e (hS.newF hp _) (.lst upd_same (.ints ys)) h4
  · exact h.elim⟩
def pairsD : List D → Option (List (Key × D))
  | [] => some []
  | .tup [.int i, d] :: ds => (pairsD ds).map ((.inl i, d) :: ·)
  | .tup [.str i, d] :: ds => (pairsD ds).map ((.inr i, d) :: ·)
  | _ => none
theorem pairsD_map : ∀ es : List (Key × D), pairsD (es.map fun e => .tup [keyD e.1, e.2]) = some es
  | [] => rfl
  | (.inl i, d) :: es => by
    have ih := pairsD_map es
    rw [List.map_cons]
    show Option.map _ (pairsD _) = _
    rw [ih]; rfl
  | (.inr i, d) :: es => by
    have ih := pairsD_map es
    rw [List.map_cons]
    show Option.map _ (pairsD _) = _
    rw [ih]; rfl
theorem pairsD_ok : ∀ {ds : List D} {es : List (Key × D)}, pairsD ds = some es → ds = es.map fun e => .tup [keyD e.1, e.2]
  | [], _, h => by cases h; rfl
  | d :: ds, _, h => by
    unfold pairsD at h
    split at h
    · rename_i e; cases e
    · rename_i e; cases e
      obtain ⟨ks, h1, rfl⟩ := Option.map_eq_some_iff.mp h
      rw [List.map_cons, ← pairsD_ok h1]
      rfl
    · rename_i e; cases e
      obtain ⟨ks, h1, rfl⟩ := Option.map_eq_some_iff.mp h
      rw [List.map_cons, ← pairsD_ok h1]
      rfl
    · cases h
theorem rep_key {F : Hp} {v : V} : ∀ {k : Key}, Rep K F v (keyD k) → v = kV k
  | .inl _, .int _ => rfl
  | .inr _, .str _ => rfl
theorem rep_pairs {F : Hp} : ∀ {es : List (Key × D)} {vs : List V}, RepL K F vs (es.map fun e => .tup [keyD e.1, e.2]) → ∃ (ps : List Addr) (kvs : List (Key × V)), vs = ps.map V.ref ∧ Paired (fun p kv => Rd F p (.tup [kV kv.1, kv.2])) ps kvs ∧ RepK K F kvs es
  | [], _, .nil => ⟨[], [], rfl, .nil, .nil⟩
  | (k, d) :: es, _, .cons r t => by
    obtain ⟨ps, kvs, rfl, h1, h2⟩ := rep_pairs t
    cases r with
    | tup e q =>
      cases q with
      | cons q1 q2 =>
        cases q2 with
        | cons q3 q4 =>
          cases q4
          have := rep_key q1
          subst this
          exact ⟨_ :: ps, (k, _) :: kvs, rfl, .cons e.1 h1, .cons q3 h2⟩
def rDictP (K : PySem.W.Frag) : List V → Hp → VK → Prop := fun xs H Q => ∃ (a : Addr) (ps : List Addr) (kvs : List (Key × V)), xs = [.ref a] ∧ SqL K H a (ps.map V.ref) ∧ Paired (fun p kv => SqT K H p [kV kv.1, kv.2]) ps kvs ∧
    ∀ p, H p = none → Q (.ref p) (upd H p (.dK (mergeK [] kvs)))
def aDictP (m : Bool) : ASp := fun ds C P => match ds with
  | [d] => ∃ ws es, asLr C d = some ws ∧ pairsD ws = some es ∧ if m then ∀ p, C p = none → P (.ce p) (put C p (.dk (mergeD [] es))) else P (.dk (mergeD [] es)) C
  | _ => False
theorem ac_dictP {m : Bool} (hc : X.calm = true := by rfl) (hK : X.K = K := by rfl) : ACa B X (.type "dict") (rDictP K) (aDictP m) := by
  subst hK
  exact ⟨call_dictP hc, by
  intro vs ds F C R H Q P hS r h k
  unfold aDictP at h
  split at h
  · cases r with
    | cons r1 r2 =>
      cases r2
      obtain ⟨ws, es, h1, h2, h3⟩ := h
      have := pairsD_ok h2
      subst this
      obtain ⟨a, xs, rfl, g1, g2⟩ := asLr_ok hS r1 h1
      obtain ⟨ps, kvs, rfl, g3, g4⟩ := rep_pairs g2
      refine ⟨a, ps, kvs, rfl, g1, Paired.mapP g3 fun _ _ z => SqT.of (rdUp z hS.ex), fun p hp => ?_⟩
      have g5 := RepK.merge g4 .nil
      cases m with
      | true => exact k _ _ _ _ _ (Ex.refl F) (hS.newC hp (.dk g5)) (.ce p) (h3 p (hS.freeC hp))
      | false =>
        have e := Ex.new (o := .dK (mergeK [] kvs)) (hS.freeF hp)
        exact k _ _ _ C _ e (hS.newF hp _) (.dk upd_same (g5.mono e)) h3
  · exact h.elim⟩
theorem RepL.times {F : Hp} {xs : List V} {ds : List D} (r : RepL K F xs ds) : ∀ n, RepL K F (List.replicate n xs).flatten (List.replicate n ds).flatten
  | 0 => .nil
  | n + 1 => by
    rw [List.replicate_succ, List.replicate_succ, List.flatten_cons, List.flatten_cons]
    exact r.append (RepL.times r n)
def aRepL (m : Bool) : D → D → AH → (D → AH → Prop) → Prop := fun x y C P => match y with
  | .int k => ∃ ds, asL C x = some ds ∧ -(2 ^ 63) ≤ k ∧ k < 2 ^ 63 ∧ ds.length * k.toNat ≤ sizeLine ∧ if m then ∀ p, C p = none → P (.ce p) (put C p (.lst (List.replicate k.toNat ds).flatten)) else P (.lst (List.replicate k.toNat ds).flatten) C
  | _ => False
theorem ao_repL {m : Bool} : AOp B X (binaryOp .Mult) L2.rRep (aRepL m) := ⟨op_rep, by
  intro v w d e F C R H Q P hS r1 r2 h k
  unfold aRepL at h
  split at h
  · rename_i y0 kk
    cases r2
    obtain ⟨ds, h1, h2, h3, h4, h5⟩ := h
    obtain ⟨a, xs, rfl, g1, g2⟩ := asL_ok hS r1 h1
    refine ⟨a, _, xs, rfl, rfl, g1, h2, h3, by rw [g2.length]; exact h4, fun p hp => ?_⟩
    have g3 := g2.times
    cases m with
    | true => exact k _ _ _ _ _ (Ex.refl F) (hS.newC hp (.lst (g3 _))) (.ce p) (h5 p (hS.freeC hp))
    | false =>
      have e : Ex F (upd F p (.lst (List.replicate kk.toNat xs).flatten)) := Ex.new (hS.freeF hp)
      exact k _ _ _ C _ e (hS.newF hp _) (.lst upd_same ((g3 _).mono e)) h5
  · exact h.elim⟩
def aMaxL : ASp := fun ds C P => match ds with
  | [d] => ∃ (es : List D) (ks : List Int), asLr C d = some es ∧ es = ks.map D.int ∧ 0 < ks.length ∧ ∀ m : Int, m ∈ ks → (∀ y, y ∈ ks → y ≤ m) → P (.int m) C
  | _ => False
theorem ac_maxL (hc : X.calm = true := by rfl) (hK : X.K = K := by rfl) : ACa B X (.builtin "max") (rMax K) aMaxL := by
  subst hK
  exact ⟨cr_max hc, by
  intro vs ds F C R H Q P hS r h k
  unfold aMaxL at h
  split at h
  · cases r with
    | cons r1 r2 =>
      cases r2
      obtain ⟨es, ks, h1, h2, h3, h4⟩ := h
      subst h2
      obtain ⟨a, kvs, rfl, g1, g2⟩ := asLr_ok hS r1 h1
      rw [g2.ofInts] at g1
      exact ⟨a, ks, rfl, g1, h3, fun m e1 e2 => k _ _ F C H (Ex.refl F) hS (.int _) (h4 m e1 e2)⟩
  · exact h.elim⟩
end
end AL
namespace AL
open PySem PySem.Spec PyProof.Rows L2
variable {B : Bs}
section
variable {C : AH} {P : D → AH → Prop} {s : ASt} {e : AE'}
theorem g_dictPM {es : List (Key × D)} (h : ∀ p, C p = none → P (.ce p) (put C p (.dk (mergeD [] es)))) : aDictP true [.lst (es.map fun e => .tup [keyD e.1, e.2])] C P := ⟨_, es, rfl, pairsD_map es, h⟩
end
end AL
namespace AL
open PySem L2
def nk (n : Nat) : Key := .inl (n : Int)
theorem nk_inj {a b : Nat} (h : nk a = nk b) : a = b := by have := Sum.inl.inj h; omega
def Ky (es : List (Key × D)) (L : List Nat) : Prop := es.map (·.1) = L.map nk
def addN (L : List Nat) (n : Nat) : List Nat := if n ∈ L then L else L ++ [n]
theorem Ky.nil : Ky [] [] := rfl
theorem Ky.len {es : List (Key × D)} {L : List Nat} (h : Ky es L) : es.length = L.length := by
  have := congrArg List.length h
  simpa using this
theorem Ky.any {es : List (Key × D)} {L : List Nat} (h : Ky es L) (n : Nat) : (es.any fun kv => decide (kv.1 = nk n)) = decide (n ∈ L) := by
  have e : (es.any fun kv => decide (kv.1 = nk n)) = (es.map (·.1)).any fun k => decide (k = nk n) := by rw [List.any_map]; rfl
  rw [e, show es.map (·.1) = L.map nk from h, List.any_map, Bool.eq_iff_iff, List.any_eq_true, decide_eq_true_iff]
  constructor
  · rintro ⟨m, hm, e⟩
    have := nk_inj (of_decide_eq_true e)
    rw [← this]; exact hm
  · intro hm
    exact ⟨n, hm, decide_eq_true rfl⟩
theorem Ky.val {es : List (Key × D)} {L : List Nat} (h : Ky es L) (n : Nat) : (valD es (nk n)).isSome = decide (n ∈ L) := by
  rw [← h.any n]
  unfold valD
  rw [Option.isSome_map, Bool.eq_iff_iff, List.find?_isSome, List.any_eq_true]
theorem Ky.put {es : List (Key × D)} {L : List Nat} {d : D} (h : Ky es L) (n : Nat) : Ky (putD es (nk n) d) (addN L n) := by
  unfold putD addN
  rw [h.any]
  by_cases hn : n ∈ L
  · rw [decide_eq_true hn, if_pos rfl, if_pos hn]
    show (es.map _).map _ = _
    rw [List.map_map]
    have e : ((fun kv : Key × D => kv.1) ∘ fun kv : Key × D => if kv.1 = nk n then (kv.1, d) else kv) = fun kv => kv.1 := by
      funext kv
      simp only [Function.comp]
      split <;> rfl
    rw [e]
    exact h
  · rw [decide_eq_false hn, if_neg (by decide), if_neg hn]
    show (es ++ [_]).map _ = _
    rw [List.map_append, List.map_append, show es.map (·.1) = L.map nk from h]
    rfl
theorem mem_addN {L : List Nat} {n a : Nat} : a ∈ addN L n ↔ a ∈ L ∨ a = n := by
  unfold addN
  split
  · rename_i h
    constructor
    · intro h; exact .inl h
    · rintro (h' | rfl)
      · exact h'
      · exact h
  · simp
theorem nodup_addN {L : List Nat} {n : Nat} (h : L.Nodup) : (addN L n).Nodup := by
  unfold addN
  split
  · exact h
  · rename_i hn
    refine List.nodup_append.mpr ⟨h, by simp, ?_⟩
    intro a ha b hb e
    have : b = n := by simpa using hb
    exact hn (by rw [← this, ← e]; exact ha)
theorem Ky.merge : ∀ (xs : List Nat) (d : D) {es : List (Key × D)} {L : List Nat}, Ky es L → Ky (mergeD es (xs.map fun n => (nk n, d))) (xs.foldl addN L)
  | [], _, _, _, h => h
  | n :: xs, d, _, _, h => Ky.merge xs d (h.put n)
theorem mem_foldN : ∀ (xs : List Nat) {L : List Nat} {a : Nat}, a ∈ xs.foldl addN L ↔ a ∈ L ∨ a ∈ xs
  | [], L, a => by simp
  | n :: xs, L, a => by
    rw [List.foldl_cons, mem_foldN xs, mem_addN, List.mem_cons]
    constructor
    · rintro ((h | h) | h)
      · exact .inl h
      · exact .inr (.inl h)
      · exact .inr (.inr h)
    · rintro (h | h | h)
      · exact .inl (.inl h)
      · exact .inl (.inr h)
      · exact .inr h
theorem nodup_foldN : ∀ (xs : List Nat) {L : List Nat}, L.Nodup → (xs.foldl addN L).Nodup
  | [], _, h => h
  | n :: xs, _, h => nodup_foldN xs (nodup_addN h)
section
variable {C : AH} {P : D → AH → Prop} {s : ASt} {q : Addr} {es : List (Key × D)} {L : List Nat} {n : Nat} {nx : ASt → AH → Prop} {rt : D → AH → Prop} {bk ct : ASt → AH → Prop}
theorem asK_ce (h : C q = some (.dk es)) : asK C (.ce q) = some es := by simp only [asK, h]
theorem g_inKv {neg : Bool} {i j : Nat} (hi : s[i]? = some (some (.int (n : Int)))) (hj : s[j]? = some (some (.ce q))) (hC : C q = some (.dk es)) (hK : Ky es L) (h : P (.bl (if neg then !decide (n ∈ L) else decide (n ∈ L))) C) : aInK neg (aVar i) (aVar j) s C P := by
  refine g_var hi ?_
  refine g_var hj ?_
  rw [asK_ce hC, show AL.keyOf (.int (n : Int)) = some (nk n) from rfl]
  show P _ C
  rw [hK.val]
  exact h
theorem g_ninKn {i j : Nat} (hi : s[i]? = some (some (.int (n : Int)))) (hj : s[j]? = some (some (.ce q))) (hC : C q = some (.dk es)) (hK : Ky es L) (h1 : n ∈ L → P (.bl false) C) (h2 : n ∉ L → P (.bl true) C) : aInK true (aVar i) (aVar j) s C P := by
  refine g_inKv hi hj hC hK ?_
  by_cases h : n ∈ L
  · rw [decide_eq_true h]; exact h1 h
  · rw [decide_eq_false h]; exact h2 h
theorem g_putKv {i j : Nat} {d : D} (hi : s[i]? = some (some (.ce q))) (hj : s[j]? = some (some (.int (n : Int)))) (hC : C q = some (.dk es)) (hK : Ky es L) (hl : L.length ≤ 10000000) (h : ∀ es', Ky es' (addN L n) → nx s (put C q (.dk es'))) : aPutK (aVar i) (aVar j) (aC d) ⟨nx, rt, bk, ct⟩ s C := by
  unfold aPutK aC
  refine g_var hi ?_
  refine g_var hj ?_
  rw [show AL.keyOf (.int (n : Int)) = some (nk n) from rfl]
  show (match C q with | some (.dk es) => es.length < sizeLine ∧ _ | _ => False)
  rw [hC]
  exact ⟨by rw [hK.len]; simp only [sizeLine]; omega, h _ (hK.put n)⟩
theorem g_neNatsF {ns : List Nat} (h : P (.bl (!ns.isEmpty)) C) : aNe (.lst (natsD ns)) (.lst []) C P := by
  obtain ⟨x, h1, h2, h3⟩ := okD_shaped (okD_nats ns 1) (by omega)
  refine g_neP rfl (show pdC C (.lst (natsD ns)) = some x from h1) (v := .list []) rfl h2 (by decide +kernel) ?_
  cases ns with
  | nil =>
    have : x = .list [] := by simpa [D.pd, pdL, eq_comm] using h1
    subst this
    rw [show PyData.eqv (.list []) (.list []) = true by decide +kernel]
    exact h
  | cons a ns =>
    have : ∃ ys, x = .list (.int a :: ys) := by
      simp only [D.pd, natsD, List.map_cons, pdL] at h1
      cases e : pdL (ns.map fun (n : Nat) => D.int (n : Int)) with
      | none => rw [e] at h1; cases h1
      | some ys => rw [e] at h1; cases h1; exact ⟨ys, rfl⟩
    obtain ⟨ys, rfl⟩ := this
    rw [show PyData.eqv (.list (.int a :: ys)) (.list []) = false by rw [PyData.eqv, PyData.eqvAll]]
    exact h
theorem toVs_nats : ∀ ns : List Nat, toVs (natsD ns) = some (ns.map fun (n : Nat) => V.int n)
  | [] => rfl
  | n :: ns => by
    show (match toV (.int (n : Int)), toVs (natsD ns) with | some v, some vs => some (v :: vs) | _, _ => none) = _
    rw [toVs_nats ns]
    rfl
theorem inV_nats (n : Nat) (ns : List Nat) : inV (.int (n : Int)) (ns.map fun (n : Nat) => V.int n) = decide (n ∈ ns) := by
  induction ns with
  | nil => rfl
  | cons a ns ih =>
    have : inV (.int (n : Int)) ((a :: ns).map fun (n : Nat) => V.int n) = (eqV (.int (a : Int)) (.int (n : Int)) || inV (.int (n : Int)) (ns.map fun (n : Nat) => V.int n)) := rfl
    rw [this, ih]
    have e : eqV (.int (a : Int)) (.int (n : Int)) = decide (n = a) := by
      show (((a : Int)) == (n : Int)) = _
      rw [Bool.eq_iff_iff, beq_iff_eq, decide_eq_true_iff]
      omega
    rw [e]
    simp [Bool.decide_or]
theorem g_inNats {ns : List Nat} (h : P (.bl (decide (n ∈ ns))) C) : aInL (.int (n : Int)) (.lst (natsD ns)) C P := by
  show (match toV (.int (n : Int)), (some (natsD ns)).bind toVs with | some u, some us => P (.bl (if false then !inV u us else inV u us)) C | _, _ => False)
  rw [show (some (natsD ns)).bind toVs = toVs (natsD ns) from rfl, toVs_nats]
  show P (.bl (inV (.int (n : Int)) _)) C
  rw [inV_nats]
  exact h
end
theorem incr_ext : ∀ {xs ys : List Nat}, xs.Pairwise (· < ·) → ys.Pairwise (· < ·) → (∀ a, a ∈ xs ↔ a ∈ ys) → xs = ys
  | [], [], _, _, _ => rfl
  | [], y :: ys, _, _, h => absurd ((h y).mpr List.mem_cons_self) (by simp)
  | x :: xs, [], _, _, h => absurd ((h x).mp List.mem_cons_self) (by simp)
  | x :: xs, y :: ys, h1, h2, h => by
    obtain ⟨a1, a2⟩ := List.pairwise_cons.mp h1
    obtain ⟨b1, b2⟩ := List.pairwise_cons.mp h2
    have e : x = y := by
      rcases List.mem_cons.mp ((h x).mp List.mem_cons_self) with e | e
      · exact e
      · rcases List.mem_cons.mp ((h y).mpr List.mem_cons_self) with e' | e'
        · exact e'.symm
        · have := a1 y e'; have := b1 x e; omega
    subst e
    rw [incr_ext a2 b2 fun a => ?_]
    constructor
    · intro ha
      rcases List.mem_cons.mp ((h a).mp (List.mem_cons_of_mem _ ha)) with e | e
      · have := a1 a ha; omega
      · exact e
    · intro ha
      rcases List.mem_cons.mp ((h a).mpr (List.mem_cons_of_mem _ ha)) with e | e
      · have := b1 a ha; omega
      · exact e
open Classical in
/-- those below n of which p is so, rising -/
noncomputable def rl (n : Nat) (p : Nat → Prop) : List Nat := (List.range n).filter fun i => decide (p i)
open Classical in
theorem rl_incr (n : Nat) (p : Nat → Prop) : (rl n p).Pairwise (· < ·) := List.Pairwise.filter _ List.pairwise_lt_range
open Classical in
theorem mem_rl {n : Nat} {p : Nat → Prop} {a : Nat} : a ∈ rl n p ↔ a < n ∧ p a := by
  unfold rl
  rw [List.mem_filter, List.mem_range, decide_eq_true_iff]
open Classical in
theorem rl_len (n : Nat) (p : Nat → Prop) : (rl n p).length ≤ n := by
  have := List.length_filter_le (fun i => decide (p i)) (List.range n)
  rw [List.length_range] at this
  exact this
theorem incr_of_sorted {ys : List Int} {L : List Nat} (h1 : ys.Perm (L.map fun (n : Nat) => (n : Int))) (h2 : ys.Pairwise (· ≤ ·)) (h3 : L.Nodup) : ∃ R : List Nat, ys = R.map (fun (n : Nat) => (n : Int)) ∧ R.Pairwise (· < ·) ∧ ∀ a, a ∈ R ↔ a ∈ L := by
  have hnn : ∀ y ∈ ys, ∃ n : Nat, y = n := fun y hy => by
    obtain ⟨n, _, rfl⟩ := List.mem_map.mp (h1.mem_iff.mp hy)
    exact ⟨n, rfl⟩
  have e : ys = (ys.map Int.toNat).map (fun (n : Nat) => (n : Int)) := by
    rw [List.map_map]
    refine (List.map_id _).symm.trans (List.map_congr_left fun y hy => ?_)
    obtain ⟨n, rfl⟩ := hnn y hy
    rfl
  have hR : (ys.map Int.toNat).Perm L := by
    have := h1.map Int.toNat
    rw [List.map_map] at this
    have e2 : L.map (Int.toNat ∘ fun (n : Nat) => (n : Int)) = L := (List.map_congr_left fun y hy => rfl).trans (List.map_id _)
    rw [e2] at this
    exact this
  have hnd : (ys.map Int.toNat).Nodup := hR.nodup_iff.mpr h3
  have hp : (ys.map Int.toNat).Pairwise (· ≤ ·) := List.pairwise_map.mpr (h2.imp fun h => by omega)
  refine ⟨_, e, ?_, fun a => hR.mem_iff⟩
  have := List.pairwise_and_iff.mpr ⟨hp, hnd⟩
  exact this.imp fun ⟨a, b⟩ => Nat.lt_of_le_of_ne a b
theorem sorted_rl {n : Nat} {p : Nat → Prop} {ys : List Int} {L : List Nat} (h1 : ys.Perm (L.map fun (n : Nat) => (n : Int))) (h2 : ys.Pairwise (· ≤ ·)) (h3 : L.Nodup) (h4 : ∀ a, a ∈ L ↔ a < n ∧ p a) : ys.map D.int = natsD (rl n p) := by
  obtain ⟨R, rfl, g1, g2⟩ := incr_of_sorted h1 h2 h3
  rw [incr_ext g1 (rl_incr n p) fun a => (g2 a).trans ((h4 a).trans mem_rl.symm)]
  unfold natsD
  rw [List.map_map]
  rfl
inductive Reach (R : Nat → Nat → Prop) (S : List Nat) : Nat → Prop
  | base {a : Nat} : a ∈ S → Reach R S a
  | step {a b : Nat} : Reach R S a → R a b → Reach R S b
/-- a list that is closed holds all -/
theorem Reach.closed {R : Nat → Nat → Prop} {S L : List Nat} (h0 : ∀ a ∈ S, a ∈ L) (h1 : ∀ a ∈ L, ∀ b, R a b → b ∈ L) {a : Nat} (h : Reach R S a) : a ∈ L := by
  induction h with
  | base h => exact h0 _ h
  | step _ r ih => exact h1 _ ih _ r
theorem nodup_bound {L : List Nat} {n : Nat} (h : L.Nodup) (hb : ∀ a ∈ L, a < n) : L.length ≤ n := by
  have : ∀ {l m : List Nat}, l.Nodup → (∀ x ∈ l, x ∈ m) → l.length ≤ m.length := by
    intro l
    induction l with
    | nil => intro m _ _; exact Nat.zero_le _
    | cons x l ih =>
      intro m hn hs
      obtain ⟨hx, hn⟩ := List.nodup_cons.mp hn
      have h1 := hs x (List.mem_cons_self ..)
      have := ih (m := m.erase x) hn fun y hy => (List.mem_erase_of_ne (fun e => hx (by rw [← e]; exact hy))).mpr (hs y (List.mem_cons_of_mem _ hy))
      rw [List.length_erase_of_mem h1] at this
      have := List.length_pos_of_mem h1
      rw [List.length_cons]
      omega
  have h2 := this h (m := List.range n) fun x hx => List.mem_range.mpr (hb x hx)
  rw [List.length_range] at h2
  exact h2
end AL
namespace AL
open PySem PySem.Spec PyProof.Rows L2
open AutoSeq1 (wpAny_loadPart')
end AL
namespace AL
open PySem PySem.Spec PyProof.Rows L2
end AL
namespace AL
open PySem PySem.Spec PyProof.Rows L2
end AL
namespace AL
open PySem PySem.Spec PyProof.Rows L2
end AL
namespace AL
open PySem PySem.Spec PyProof.Rows L2
open AutoSeq1 (wpAny_loadPart')
end AL
namespace AL
open PySem PySem.Spec PyProof.Rows L2
end AL
namespace AL
open PySem PySem.Spec PyProof.Rows L2
open PyProof.Rows (envOfC)
variable {B : Bs}
/-- what is asked where a class's exception flies out, the slots and the cells as they are then -/
abbrev AX' := ASt → Str → AH → Prop
abbrev ASpX := List D → AH → (D → AH → Prop) → (Str → AH → Prop) → Prop
def aRaise (W : AX') (nm : Str) : AS' := fun _ s C => W s nm C
section
variable {X : Cx} {K : PySem.W.Frag} {W : AX'} {Wk : WX} {x m : Str} {j : Nat} {p p2 p3 pos : Pos}
def aCallX (W : AX') (asp : ASpX) (a : AA') : AE' := fun s C P => a s C fun ds C1 => asp ds C1 P (W s)
variable {e : Expr} {es : List Expr} {n : Nat} {t : TA} {a : AA'} {asp : ASpX} {k i : Nat}
end
def aBodyX (n : Nat) (b : AX' → AS') : ASpX := fun ds C P PX => b (fun _ nm C' => PX nm C') ⟨fun _ C' => P .non C', P, fun _ _ => False, fun _ _ => False⟩ (ds.map some ++ List.replicate (n - ds.length) none) C
def aHand (sub : Str → Str → Option Bool) (Wout : AX') (E : AEnds) : List (Str × AS') → AX'
  | [] => Wout
  | (c, h) :: r => fun s nm C => match sub nm c with | some true => h E s C | some false => aHand sub Wout E r s nm C | none => False
def aTry (sub : Str → Str → Option Bool) (body : AX' → AS') (hds : List (Str × AS')) (Wout : AX') : AS' := fun E s C => body (aHand sub Wout E hds) E s C
inductive AHds (X : Cx) : List ExceptHandler → List (Value × (Addr → Value → Option Addr → TS)) → List (Str × AS') → Prop
  | nil : AHds X [] [] []
  | cons {x : Str} {c : Value} {ts : TS} {ha : AS'} {b₀ : Stmt} {suite : List Stmt} {np pos' : Pos} {hds : List ExceptHandler} {l : List (Value × (Addr → Value → Option Addr → TS))} {la : List (Str × AS')} (hm : X.mg x = some c) (hg : Gl X x) (hdb : (x == ("__debug__" : Str)) = false)
      (hsu : ∀ (B : Bs) (hw : B.g = ⟨X.w, X.mg⟩) (a : Addr) (oe : Obj) (pn : List (Addr × Obj)), ASs B (X.suite a ((a, oe) :: pn)) (b₀ :: suite) ts ha) (r : AHds X hds l la) :
      AHds X (.ExceptHandler (some (.Name x np)) none (b₀ :: suite) pos' :: hds) ((c, fun _ _ _ => ts) :: l) ((x, ha) :: la)
section
variable {X : Cx} {body : List Stmt} {h₀ : ExceptHandler} {hds : List ExceptHandler} {l : List (Value × (Addr → Value → Option Addr → TS))} {la : List (Str × AS')} {pos : Pos} {tb : WX → TS} {W : AX'} {Wk : WX} {ab : AX' → AS'} {sub : Str → Str → Option Bool}
theorem AHds.ok {hds : List ExceptHandler} (h : AHds X hds l la) : HdsOk X hds l := by
  induction h with
  | nil => exact .nil
  | cons hm hg hdb hsu r ih => exact .cons ⟨hg, hdb, .inl hm⟩ (fun a oe cls d pn _ _ => (hsu (Bs.nil ⟨X.w, X.mg⟩) rfl a oe pn).ps) ih
/-- a def that lets nothing out, from one whose walk tells so -/
theorem AE.nox {e : Expr} {t : TE} {a : AE'} (h : AE B X.nox e t a) : AE B X e t a := ⟨h.pe.nox, h.sim⟩
theorem ASs.nox {st : List Stmt} {t : TS} {a : AS'} (h : ASs B X.nox st t a) : ASs B X st t a := ⟨h.ps.nox, h.sim⟩
theorem PS.nox {st : Stmt} {t : TS} (h : PS X.nox st t) : PS X st t := ⟨fun pins s σ H D I hw =>
  wpAny_mono (h.run pins s σ H D (I.wish _) hw) (fun _ _ q => q.unwish) fun _ _ z => False.elim z⟩
theorem AS.nox {st : Stmt} {t : TS} {a : AS'} (h : AS B X.nox st t a) : AS B X st t a := ⟨PS.nox h.ps, h.sim⟩
theorem AT.nox {e : Expr} {t : TT} {a : AT'} (h : AT B X.nox e t a) : AT B X e t a := ⟨h.pt.nox, h.sim⟩
end
section
variable {C : AH} {P : D → AH → Prop} {PX : Str → AH → Prop} {W : AX'} {E : AEnds} {s : ASt}
theorem g_bodyX {n : Nat} {b : AX' → AS'} {ds : List D} {s : ASt} (h0 : ds.map some ++ List.replicate (n - ds.length) none = s) (h : b (fun _ nm C' => PX nm C') ⟨fun _ C' => P .non C', P, fun _ _ => False, fun _ _ => False⟩ s C) : aBodyX n b ds C P PX := by
  subst h0
  exact h
theorem g_callX {asp : ASpX} {a : AA'} (h : a s C fun ds C1 => asp ds C1 P (W s)) : aCallX W asp a s C P := h
theorem g_raise {nm : Str} (h : W s nm C) : aRaise W nm E s C := h
theorem g_try {sub : Str → Str → Option Bool} {body : AX' → AS'} {hds : List (Str × AS')} (h : body (aHand sub W E hds) E s C) : aTry sub body hds W E s C := h
end
end AL
namespace AL
open PySem PySem.Spec PyProof.Rows L2
end AL
namespace AL
open PySem PySem.Spec PyProof.Rows L2
variable {B : Bs}
section
variable {X : Cx} {pos cpos apos : Pos} {o i e : Expr} {to ti te : TE} {ao ai ae : AE'} {K : PySem.W.Frag}
def aGet1 (o i : AE') : AE' := fun s C P => o s C fun x C1 => (asK C1 x).isSome = true ∧ i s C1 fun y C2 => match asK C2 x, keyOf y with
  | some es, some k => P ((valD es k).getD .non) C2
  | _, _ => False
def aGet2 (o i e : AE') : AE' := fun s C P => o s C fun x C1 => (asK C1 x).isSome = true ∧ i s C1 fun y C2 => e s C2 fun z C3 => match asK C3 x, keyOf y with
  | some es, some k => P ((valD es k).getD z) C3
  | _, _ => False
/-- {k: v}, k of any kind that may be -/
def aDispV (ak av : AE') : AE' := fun s C P => ak s C fun dk C1 => av s C1 fun dv C2 => match keyOf dk with
  | some k => ∀ p, C2 p = none → P (.ce p) (put C2 p (.dk [(k, dv)]))
  | none => False
theorem sim_dispV {tk tv : TE} {ak av : AE'} (h1 : SimE B K tk ak) (h2 : SimE B K tv av) : SimE B K (tDisp [(tk, tv)]) (aDispV ak av) := by
  intro σ s F C R H Q P hs hS h0 k p hp
  have hF := hS.freeF hp
  have hC := hS.freeC hp
  have hR := hS.freeR hp
  refine h1 σ s F C (upd R p (.dK [])) (upd H p (.dK [])) _ _ hs (hS.setR hF hC (hS.freeB hR) _) h0 fun d v F1 C1 H1 e1 S1 r1 g1 => ?_
  refine h2 σ s F1 C1 _ H1 _ _ (hs.mono e1) S1 g1 fun d2 v2 F2 C2 H2 e2 S2 r2 g2 => ?_
  split at g2
  · rename_i ky ek
    have hk := keyOf_ok r1 ek
    obtain ⟨f1, c1, q1⟩ := S2.priv p _ upd_same
    refine ⟨q1, [(ky, v2)], by rw [hk]; rfl, by simp, ?_⟩
    have S3 := (S2.outC hR (hS.freeB hR) (.dk .nil)).mutC put_same (.dk (kvs := [(ky, v2)]) (.cons r2 .nil))
    rw [put_put] at S3
    exact k _ _ F2 _ _ (e1.trans e2) S3 (.ce p) (g2 p c1)
  · exact g2.elim
theorem ae_dispV {k v : Expr} {tk tv : TE} {ak av : AE'} (h1 : AE B X k tk ak) (h2 : AE B X v tv av) : AE B X (.Dict [some k] [v] pos) (tDisp [(tk, tv)]) (aDispV ak av) :=
  ⟨pe_disp (pps_cons h1.pe h2.pe pps_nil) rfl rfl (by simp) (by simp), sim_dispV h1.sim h2.sim⟩
end
section
variable {C : AH} {P : D → AH → Prop} {s : ASt} {o i e : AE'}
def kGet1 (i : AE') (s : ASt) (P : D → AH → Prop) : D → AH → Prop := fun x C1 => (asK C1 x).isSome = true ∧ i s C1 fun y C2 => match asK C2 x, keyOf y with
  | some es, some k => P ((valD es k).getD .non) C2
  | _, _ => False
theorem g_get1 (h : o s C (kGet1 i s P)) : aGet1 o i s C P := h
def kGet2 (i e : AE') (s : ASt) (P : D → AH → Prop) : D → AH → Prop := fun x C1 => (asK C1 x).isSome = true ∧ i s C1 fun y C2 => e s C2 fun z C3 => match asK C3 x, keyOf y with
  | some es, some k => P ((valD es k).getD z) C3
  | _, _ => False
theorem g_get2 (h : o s C (kGet2 i e s P)) : aGet2 o i e s C P := h
def kDispV (P : D → AH → Prop) (dk : D) : D → AH → Prop := fun dv C2 => match keyOf dk with
  | some k => ∀ p, C2 p = none → P (.ce p) (put C2 p (.dk [(k, dv)]))
  | none => False
theorem g_dispV {ak av : AE'} (h : ak s C fun dk C1 => av s C1 (kDispV P dk)) : aDispV ak av s C P := h
theorem g_kDispVI {i : Int} {dv : D} (h : ∀ p, C p = none → P (.ce p) (put C p (.dk [(.inl i, dv)]))) : kDispV P (.int i) dv C := h
end
end AL
namespace AL
open PySem PySem.Spec PyProof.Rows L2
variable {B : Bs}
abbrev KN : List (NestedKey × Addr × V) → List (NestedKey × Addr × Value) → Prop := Paired fun x y => x.1 = y.1 ∧ x.2.1 = y.2.1 ∧ RelV x.2.2 y.2.2
def valN {α : Type} (xs : List (NestedKey × Addr × α)) (k : NestedKey) : Option α := (xs.find? fun x => decide (x.1 = k)).map (·.2.2)
theorem valN_pos {α : Type} {x : NestedKey × Addr × α} {xs : List (NestedKey × Addr × α)} {k : NestedKey} (e : x.1 = k) : valN (x :: xs) k = some x.2.2 := by simp [valN, e]
theorem valN_neg {α : Type} {x : NestedKey × Addr × α} {xs : List (NestedKey × Addr × α)} {k : NestedKey} (e : ¬ x.1 = k) : valN (x :: xs) k = valN xs k := by simp [valN, e]
def putN (xs : List (NestedKey × Addr × V)) (k : NestedKey) (a : Addr) (v : V) : List (NestedKey × Addr × V) :=
  if (valN xs k).isSome = true then xs.map (fun x => if x.1 = k then (x.1, x.2.1, v) else x) else xs ++ [(k, a, v)]
theorem KN.val {xs : List (NestedKey × Addr × V)} {ys : List (NestedKey × Addr × Value)} (r : KN xs ys) (k : NestedKey) : RelO (valN xs k) ((atKey ys k).map (·.2)) := by
  induction r with
  | nil => exact True.intro
  | @cons p q ps qs h t ih =>
    obtain ⟨h1, _, h2⟩ := h
    by_cases e : p.1 = k
    · have e' : q.1 = k := h1.symm.trans e
      have b : atKey (q :: qs) k = some q.2 := by simp [atKey, List.find?_cons, e']
      rw [valN_pos e, b]; exact h2
    · have e' : ¬ q.1 = k := fun z => e (h1.trans z)
      have b : atKey (q :: qs) k = atKey qs k := by simp [atKey, List.find?_cons, e']
      rw [valN_neg e, b]; exact ih
theorem KN.put {xs : List (NestedKey × Addr × V)} {ys : List (NestedKey × Addr × Value)} (r : KN xs ys) (k : NestedKey) (b : Addr) {y : V} {u : Value} (ry : RelV y u) : KN (putN xs k b y) (storedH ys k b u) := by
  have e : (valN xs k).isSome = (atKey ys k).isSome := by rw [(r.val k).isSome_eq, Option.isSome_map]
  unfold putN storedH
  rw [e]
  by_cases q : (atKey ys k).isSome = true
  · rw [if_pos q, if_pos q]
    clear e q
    induction r with
    | nil => exact .nil
    | @cons p q ps qs h t ih =>
      rw [List.map_cons, List.map_cons]
      refine .cons ?_ ih
      obtain ⟨h1, h2, h3⟩ := h
      unfold putAt
      by_cases e : p.1 = k
      · rw [if_pos e, if_pos (h1.symm.trans e)]; exact ⟨h1, h2, ry⟩
      · rw [if_neg e, if_neg (fun z => e (h1.trans z))]; exact ⟨h1, h2, h3⟩
  · rw [if_neg q, if_neg q]; exact Paired.snoc r ⟨rfl, rfl, ry⟩
/-- the keys of the entries stand -/
def KeysN (H : Hp) (xs : List (NestedKey × Addr × V)) : Prop := ∀ x ∈ xs, VKey H (.ref x.2.1) x.1 ∧ x.1.depth ≤ 8
theorem KeysN.put {H : Hp} {xs : List (NestedKey × Addr × V)} (r : KeysN H xs) {k : NestedKey} {a : Addr} {v : V} (hk : VKey H (.ref a) k) (hd : k.depth ≤ 8) : KeysN H (putN xs k a v) := by
  unfold putN
  intro x hx
  split at hx
  · obtain ⟨y, hy, rfl⟩ := List.mem_map.mp hx
    split
    · exact r y hy
    · exact r y hy
  · rcases List.mem_append.mp hx with q | q
    · exact r x q
    · rw [List.mem_singleton.mp q]; exact ⟨hk, hd⟩
end AL
namespace AL
open PySem PySem.Spec PyProof.Rows L2
end AL
namespace AL
open PySem PySem.Spec PyProof.Rows L2
variable {B : Bs}
def keysW (es : List (D × D)) : List (NestedKey × D) := es.map fun kv => ((keyT kv.1).getD .none, kv.2)
def asN (C : AH) : D → Option (List (NestedKey × D))
  | .ce p => (match C p with | some (.dn es) => some es | some (.dw _ es) => some (keysW es) | _ => none)
  | _ => none
def valND (es : List (NestedKey × D)) (k : NestedKey) : Option D := (es.find? fun kv => decide (kv.1 = k)).map (·.2)
def putND (es : List (NestedKey × D)) (k : NestedKey) (d : D) : List (NestedKey × D) :=
  if (valND es k).isSome = true then es.map (fun kv => if kv.1 = k then (kv.1, d) else kv) else es ++ [(k, d)]
/-- the same where the keys are told -/
def putW (es : List (D × D)) (kd : D) (d : D) : List (D × D) :=
  if (valND (keysW es) ((keyT kd).getD .none)).isSome = true then es.map (fun kv => if (keyT kv.1).getD .none = (keyT kd).getD .none then (kv.1, d) else kv) else es ++ [(kd, d)]
/-- what a dict holds at a key; none: not to be told -/
def lookD (C : AH) (x y : D) : Option (Option D) := match asK C x with
  | some es => (match keyOf y with | some k => some (valD es k) | none => if isNon y = true then some none else none)
  | none => (match asN C x, keyT y with | some es, some k => some (valND es k) | _, _ => none)
section
variable {K : PySem.W.Frag} {F F' : Hp} {C : AH} {R H : Hp}
mutual
theorem keyN_ok : ∀ {d : D} {v : V} {k : NestedKey}, Rep K F v d → keyN d = some k → VKey F v k
  | .non, _, _, r, h => by cases r; cases h; exact .non
  | .bl b, _, _, r, h => by cases r; cases h; exact .bl b
  | .int i, _, _, r, h => by cases r; cases h; exact .int i
  | .str x, _, _, r, h => by cases r; cases h; exact .str x
  | .tup ds, _, _, r, h => by
    cases r with
    | tup h1 h2 =>
      unfold keyN at h
      obtain ⟨ks, q, rfl⟩ := Option.map_eq_some_iff.mp h
      exact .tup h1.1 (keyNs_ok h2 q)
  | .lst _, _, _, _, h => by unfold keyN at h; cases h
  | .dk _, _, _, _, h => by unfold keyN at h; cases h
  | .scr _, _, _, _, h => by unfold keyN at h; cases h
  | .ce _, _, _, _, h => by unfold keyN at h; cases h
theorem keyNs_ok : ∀ {ds : List D} {vs : List V} {ks : List NestedKey}, RepL K F vs ds → keyNs ds = some ks → VKeys F vs ks
  | [], _, _, r, h => by cases r; cases h; exact .nil
  | d :: ds, _, _, r, h => by
    cases r with
    | cons r1 r2 =>
      unfold keyNs at h
      split at h
      · rename_i q1 q2
        cases h
        exact .cons (keyN_ok r1 q1) (keyNs_ok r2 q2)
      · cases h
end
theorem keyT_ok {d : D} {v : V} {k : NestedKey} (r : Rep K F v d) (h : keyT d = some k) : ∃ b, v = .ref b ∧ VKey F v k ∧ k.depth ≤ 8 := by
  unfold keyT at h
  split at h
  · rename_i ht
    split at h
    · rename_i k' q
      split at h
      · rename_i hd
        cases h
        have := keyN_ok r q
        cases d <;> first | (cases ht; done) | skip
        cases r with
        | tup h1 h2 => exact ⟨_, rfl, this, hd⟩
      · cases h
    · cases h
  · cases h
theorem RepN.val (k : NestedKey) : ∀ {xs : List (NestedKey × Addr × V)} {es : List (NestedKey × D)}, RepN K F xs es → (match valND es k with | some d => ∃ v, valN xs k = some v ∧ Rep K F v d | none => valN xs k = none)
  | _, _, .nil => rfl
  | (j, a, v) :: xs, (_, d) :: es, .cons q b r t => by
    have ih := RepN.val k t
    by_cases e : j = k
    · subst e
      rw [valN_pos rfl]
      simp only [valND, List.find?_cons, decide_true, Option.map_some]
      exact ⟨v, rfl, r⟩
    · rw [valN_neg e]
      simp only [valND, List.find?_cons, decide_eq_false e]
      exact ih
theorem RepN.len : ∀ {xs : List (NestedKey × Addr × V)} {es : List (NestedKey × D)}, RepN K F xs es → xs.length = es.length
  | _, _, .nil => rfl
  | _, _, .cons _ _ _ t => by rw [List.length_cons, List.length_cons, RepN.len t]
theorem RepN.some_eq (k : NestedKey) {xs : List (NestedKey × Addr × V)} {es : List (NestedKey × D)} (h : RepN K F xs es) : (valN xs k).isSome = (valND es k).isSome := by
  have := h.val k
  cases q : valND es k with
  | none => rw [q] at this; rw [show valN xs k = none from this]; rfl
  | some d => rw [q] at this; obtain ⟨v, e, _⟩ := this; rw [e]; rfl
theorem RepN.repl (k : NestedKey) {v : V} {d : D} (r : Rep K F v d) : ∀ {xs : List (NestedKey × Addr × V)} {es : List (NestedKey × D)}, RepN K F xs es → RepN K F (xs.map fun x => if x.1 = k then (x.1, x.2.1, v) else x) (es.map fun kv => if kv.1 = k then (kv.1, d) else kv)
  | _, _, .nil => .nil
  | (j, a, _) :: _, _, .cons q1 q2 q t => by
    rw [List.map_cons, List.map_cons]
    by_cases e : j = k
    · rw [if_pos e, if_pos e]; exact .cons q1 q2 r (RepN.repl k r t)
    · rw [if_neg e, if_neg e]; exact .cons q1 q2 q (RepN.repl k r t)
theorem RepN.snoc {k : NestedKey} {a : Addr} {v : V} {d : D} (h1 : VKey F (.ref a) k) (h2 : k.depth ≤ 8) (r : Rep K F v d) : ∀ {xs : List (NestedKey × Addr × V)} {es : List (NestedKey × D)}, RepN K F xs es → RepN K F (xs ++ [(k, a, v)]) (es ++ [(k, d)])
  | _, _, .nil => .cons h1 h2 r .nil
  | _, _, .cons q1 q2 q t => .cons q1 q2 q (RepN.snoc h1 h2 r t)
theorem RepN.put {k : NestedKey} {a : Addr} {v : V} {d : D} (h1 : VKey F (.ref a) k) (h2 : k.depth ≤ 8) (r : Rep K F v d) {xs : List (NestedKey × Addr × V)} {es : List (NestedKey × D)} (h : RepN K F xs es) : RepN K F (putN xs k a v) (putND es k d) := by
  unfold putN putND
  rw [h.some_eq k]
  split
  · exact RepN.repl k r h
  · exact RepN.snoc h1 h2 r h
theorem RepW.toN : ∀ {xs : List (NestedKey × Addr × V)} {es : List (D × D)}, RepW K F xs es → RepN K F xs (keysW es)
  | _, _, .nil => .nil
  | _, _, .cons (k := k) (kd := kd) (d := d) (ds := ds) a b r t => by
    obtain ⟨c, e1, h1, h2⟩ := keyT_ok a b
    have e : keysW ((kd, d) :: ds) = (k, d) :: keysW ds := by unfold keysW; rw [List.map_cons, b]; rfl
    rw [e]
    exact .cons h1 h2 r (RepW.toN t)
theorem RepW.repl (k : NestedKey) {v : V} {d : D} (r : Rep K F v d) : ∀ {xs : List (NestedKey × Addr × V)} {es : List (D × D)}, RepW K F xs es → RepW K F (xs.map fun x => if x.1 = k then (x.1, x.2.1, v) else x) (es.map fun kv => if (keyT kv.1).getD .none = k then (kv.1, d) else kv)
  | _, _, .nil => .nil
  | (j, a, _) :: _, _, .cons q1 q2 q t => by
    rw [List.map_cons, List.map_cons]
    have e1 := q2
    by_cases e : j = k
    · rw [if_pos e, if_pos (show (keyT _).getD NestedKey.none = k by rw [q2]; exact e)]; exact .cons q1 q2 r (RepW.repl k r t)
    · rw [if_neg e, if_neg (show ¬ (keyT _).getD NestedKey.none = k by rw [q2]; exact e)]; exact .cons q1 q2 q (RepW.repl k r t)
theorem RepW.snoc {k : NestedKey} {a : Addr} {v : V} {kd d : D} (h1 : Rep K F (.ref a) kd) (h2 : keyT kd = some k) (r : Rep K F v d) : ∀ {xs : List (NestedKey × Addr × V)} {es : List (D × D)}, RepW K F xs es → RepW K F (xs ++ [(k, a, v)]) (es ++ [(kd, d)])
  | _, _, .nil => .cons h1 h2 r .nil
  | _, _, .cons q1 q2 q t => .cons q1 q2 q (RepW.snoc h1 h2 r t)
theorem RepW.put {k : NestedKey} {a : Addr} {v : V} {kd d : D} (h1 : Rep K F (.ref a) kd) (h2 : keyT kd = some k) (r : Rep K F v d) {xs : List (NestedKey × Addr × V)} {es : List (D × D)} (h : RepW K F xs es) : RepW K F (putN xs k a v) (putW es kd d) := by
  unfold putN putW
  rw [h.toN.some_eq k, show (keyT kd).getD NestedKey.none = k by rw [h2]; rfl]
  split
  · exact RepW.repl k r h
  · exact RepW.snoc h1 h2 r h
def OkO (K : PySem.W.Frag) (F : Hp) (o : Option V) (r : Option D) : Prop := match r with | some d => ∃ z, o = some z ∧ Rep K F z d | none => o = none
theorem OkO.k {kvs : List (Key × V)} {es : List (Key × D)} {k : Key} (h : RepK K F kvs es) : OkO K F (valV kvs k) (valD es k) := by
  have := RepK.val k h
  unfold OkO
  cases q : valD es k with
  | none => rw [q] at this; exact this
  | some d => rw [q] at this; exact this
end
section
variable {X : Cx} {pos cpos apos p2 : Pos} {o i e : Expr} {to ti te : TE} {ao ai a : AE'} {K : PySem.W.Frag}
def aGetN (o i : AE') : AE' := fun s C P => o s C fun x C1 => i s C1 fun y C2 => match lookD C2 x y with
  | some (some d) => P d C2
  | _ => False
def aInN (neg : Bool) (i o : AE') : AE' := fun s C P => i s C fun y C1 => o s C1 fun x C2 => match lookD C2 x y with
  | some r => P (.bl (if neg then !r.isSome else r.isSome)) C2
  | none => False
def isDic (C : AH) (x : D) : Bool := (asK C x).isSome || (asN C x).isSome
def aGet1N (o i : AE') : AE' := fun s C P => o s C fun x C1 => isDic C1 x = true ∧ i s C1 fun y C2 => match lookD C2 x y with
  | some r => P (r.getD .non) C2
  | none => False
/-- d[k] = e -/
def aPutN (o i e : AE') : AS' := fun E s C => e s C fun d C1 => o s C1 fun x C2 => i s C2 fun y C3 => match x with
  | .ce p => (match C3 p with
    | some (.dk es) => (match keyOf y with | some k => es.length < sizeLine ∧ E.nx s (put C3 p (.dk (putD es k d))) | none => False)
    | some (.dn es) => (match keyT y with | some k => es.length < sizeLine ∧ E.nx s (put C3 p (.dn (putND es k d))) | none => False)
    | some (.dw none es) => (match keyT y with | some _ => es.length < sizeLine ∧ E.nx s (put C3 p (.dw none (putW es y d))) | none => False)
    | _ => False)
  | _ => False
end
end AL
namespace AL
open PySem PySem.Spec PyProof.Rows L2
variable {B : Bs}
inductive HdsA (X : Cx) : List ExceptHandler → List (List Value × Nat × TS) → Prop
  | nil : HdsA X [] []
  | cons {x n : Str} {c : Value} {i : Nat} {ts : TS} {b₀ : Stmt} {suite : List Stmt} {np pos' : Pos} {hds : List ExceptHandler} {l : List (List Value × Nat × TS)} (hc : Names X x c) (hi : X.N[i]? = some n) (hln : X.env.kindOf n = some .local)
      (hsu : ∀ (a : Addr) (pn : List (Addr × Obj)), PSs (X.suite a pn) (b₀ :: suite) ts) (r : HdsA X hds l) (h9 : i ≠ 999) :
      HdsA X (.ExceptHandler (some (.Name x np)) (some n) (b₀ :: suite) pos' :: hds) (([c], i, ts) :: l)
  | cons2 {x x2 n : Str} {c c2 : Value} {i kk : Nat} {ts : TS} {b₀ : Stmt} {suite : List Stmt} {np np2 tp pos' : Pos} {hds : List ExceptHandler} {l : List (List Value × Nat × TS)} (hc : Names X x c) (hc2 : Names X x2 c2) (hi : X.N[i]? = some n) (hln : X.env.kindOf n = some .local)
      (hsu : ∀ (a : Addr) (pn : List (Addr × Obj)), PSs (X.suite a pn) (b₀ :: suite) ts) (r : HdsA X hds l) (h9 : i ≠ 999) :
      HdsA X (.ExceptHandler (some (.Tuple [.Name x np, .Name x2 np2] kk tp)) (some n) (b₀ :: suite) pos' :: hds) (([c, c2], i, ts) :: l)
  | cons3 {x x2 x3 : Str} {c c2 c3 : Value} {kk : Nat} {ts : TS} {b₀ : Stmt} {suite : List Stmt} {np np2 np3 tp pos' : Pos} {hds : List ExceptHandler} {l : List (List Value × Nat × TS)} (hc : Names X x c) (hc2 : Names X x2 c2) (hc3 : Names X x3 c3)
      (hsu : ∀ (a : Addr) (oe : Obj) (pn : List (Addr × Obj)), PSs (X.suite a ((a, oe) :: pn)) (b₀ :: suite) ts) (r : HdsA X hds l) :
      HdsA X (.ExceptHandler (some (.Tuple [.Name x np, .Name x2 np2, .Name x3 np3] kk tp)) none (b₀ :: suite) pos' :: hds) (([c, c2, c3], 999, ts) :: l)
end AL
namespace AL
open PySem PySem.Spec PyProof.Rows L2
variable {B : Bs}
def goneA (i : Nat) (E : AEnds) : AEnds := ⟨fun s C => E.nx (s.set i none) C, E.rt, fun s C => E.bk (s.set i none) C, fun s C => E.ct (s.set i none) C⟩
/-- whether a class is below one of some, where each is known -/
def anyS (sub : Str → Str → Option Bool) (nm : Str) : List Str → Option Bool
  | [] => some false
  | c :: r => match sub nm c, anyS sub nm r with
    | some b, some d => some (b || d)
    | _, _ => none
def aHandA (sub : Str → Str → Option Bool) (Wout : AX') (E : AEnds) : List (List Str × Nat × AS') → AX'
  | [] => Wout
  | (c, i, h) :: r => fun s nm C => match anyS sub nm c with | some true => if i = 999 then h E s C else nm ≠ "NoSentence" ∧ ∀ a, C a = none → h (goneA i E) (s.set i (some (.ce a))) (put C a (.exc nm)) | some false => aHandA sub Wout E r s nm C | none => False
def aTryA (sub : Str → Str → Option Bool) (body : AX' → AS') (hds : List (List Str × Nat × AS')) (Wout : AX') : AS' := fun E s C => body (aHandA sub Wout E hds) E s C
inductive AHdsA (X : Cx) : List ExceptHandler → List (List Value × Nat × TS) → List (List Str × Nat × AS') → Prop
  | nil : AHdsA X [] [] []
  | cons {x n : Str} {c : Value} {i : Nat} {ts : TS} {ha : AS'} {b₀ : Stmt} {suite : List Stmt} {np pos' : Pos} {hds : List ExceptHandler} {l : List (List Value × Nat × TS)} {la : List (List Str × Nat × AS')} (hm : X.mg x = some c) (hg : Gl X x) (hdb : (x == ("__debug__" : Str)) = false)
      (hi : X.N[i]? = some n) (hln : X.env.kindOf n = some .local)
      (hsu : ∀ (B : Bs) (hw : B.g = ⟨X.w, X.mg⟩) (a : Addr) (pn : List (Addr × Obj)), ASs B (X.suite a pn) (b₀ :: suite) ts ha) (r : AHdsA X hds l la) (h9 : i ≠ 999 := by decide) :
      AHdsA X (.ExceptHandler (some (.Name x np)) (some n) (b₀ :: suite) pos' :: hds) (([c], i, ts) :: l) (([x], i, ha) :: la)
  | cons2 {x x2 n : Str} {c c2 : Value} {i kk : Nat} {ts : TS} {ha : AS'} {b₀ : Stmt} {suite : List Stmt} {np np2 tp pos' : Pos} {hds : List ExceptHandler} {l : List (List Value × Nat × TS)} {la : List (List Str × Nat × AS')} (hm : X.mg x = some c) (hg : Gl X x) (hdb : (x == ("__debug__" : Str)) = false)
      (hm2 : X.mg x2 = some c2) (hg2 : Gl X x2) (hdb2 : (x2 == ("__debug__" : Str)) = false) (hi : X.N[i]? = some n) (hln : X.env.kindOf n = some .local)
      (hsu : ∀ (B : Bs) (hw : B.g = ⟨X.w, X.mg⟩) (a : Addr) (pn : List (Addr × Obj)), ASs B (X.suite a pn) (b₀ :: suite) ts ha) (r : AHdsA X hds l la) (h9 : i ≠ 999 := by decide) :
      AHdsA X (.ExceptHandler (some (.Tuple [.Name x np, .Name x2 np2] kk tp)) (some n) (b₀ :: suite) pos' :: hds) (([c, c2], i, ts) :: l) (([x, x2], i, ha) :: la)
  | cons3 {x x2 x3 : Str} {c c2 c3 : Value} {kk : Nat} {ts : TS} {ha : AS'} {b₀ : Stmt} {suite : List Stmt} {np np2 np3 tp pos' : Pos} {hds : List ExceptHandler} {l : List (List Value × Nat × TS)} {la : List (List Str × Nat × AS')} (hm : X.mg x = some c) (hg : Gl X x) (hdb : (x == ("__debug__" : Str)) = false)
      (hm2 : X.mg x2 = some c2) (hg2 : Gl X x2) (hdb2 : (x2 == ("__debug__" : Str)) = false) (hm3 : X.mg x3 = some c3) (hg3 : Gl X x3) (hdb3 : (x3 == ("__debug__" : Str)) = false)
      (hsu : ∀ (B : Bs) (hw : B.g = ⟨X.w, X.mg⟩) (a : Addr) (oe : Obj) (pn : List (Addr × Obj)), ASs B (X.suite a ((a, oe) :: pn)) (b₀ :: suite) ts ha) (r : AHdsA X hds l la) :
      AHdsA X (.ExceptHandler (some (.Tuple [.Name x np, .Name x2 np2, .Name x3 np3] kk tp)) none (b₀ :: suite) pos' :: hds) (([c, c2, c3], 999, ts) :: l) (([x, x2, x3], 999, ha) :: la)
section
variable {X : Cx} {body : List Stmt} {h₀ : ExceptHandler} {hds : List ExceptHandler} {l : List (List Value × Nat × TS)} {la : List (List Str × Nat × AS')} {pos : Pos} {tb : WX → TS} {W : AX'} {Wk : WX} {ab : AX' → AS'} {sub : Str → Str → Option Bool}
theorem AHdsA.ok {hds : List ExceptHandler} (h : AHdsA X hds l la) : HdsA X hds l := by
  induction h with
  | nil => exact .nil
  | cons hm hg hdb hi hln hsu r h9 ih => exact .cons ⟨hg, hdb, .inl hm⟩ hi hln (fun a pn => (hsu (Bs.nil ⟨X.w, X.mg⟩) rfl a pn).ps) ih h9
  | cons2 hm hg hdb hm2 hg2 hdb2 hi hln hsu r h9 ih => exact .cons2 ⟨hg, hdb, .inl hm⟩ ⟨hg2, hdb2, .inl hm2⟩ hi hln (fun a pn => (hsu (Bs.nil ⟨X.w, X.mg⟩) rfl a pn).ps) ih h9
  | cons3 hm hg hdb hm2 hg2 hdb2 hm3 hg3 hdb3 hsu r ih => exact .cons3 ⟨hg, hdb, .inl hm⟩ ⟨hg2, hdb2, .inl hm2⟩ ⟨hg3, hdb3, .inl hm3⟩ (fun a oe pn => (hsu (Bs.nil ⟨X.w, X.mg⟩) rfl a oe pn).ps) ih
end
section
variable {C : AH} {W : AX'} {E : AEnds} {s : ASt}
theorem g_tryA {sub : Str → Str → Option Bool} {body : AX' → AS'} {hds : List (List Str × Nat × AS')} (h : body (aHandA sub W E hds) E s C) : aTryA sub body hds W E s C := h
end
end AL
namespace AL
open PySem PySem.Spec PyProof.Rows L2
variable {B : Bs}
/-- a class by its name: an own one, or the built-in ValueError -/
def clsN (mg : Str → Option Value) (c : Str) (u : Value) : Prop := (mg c = some u ∧ ∃ C, u = .ref C) ∨ (c = "ValueError" ∧ u = .type "ValueError")
/-- what is known of which class an exception is -/
def IsF (K : PySem.W.Frag) (mg : Str → Option Value) (isub : Str → Str → Option Bool) : Prop := ∀ nm c b cls u, isub nm c = some b → mg nm = some cls → clsN mg c u → ∃ D, cls = .ref D ∧ ExcC K D ∧ PySem.W.kitOne K cls u = some b
def isAny (isub : Str → Str → Option Bool) (nm : Str) : List Str → Option Bool
  | [] => some false
  | c :: r => match isub nm c with
    | some true => some true
    | some false => isAny isub nm r
    | none => none
def aIsX (isub : Str → Str → Option Bool) (cs : List Str) (a : AE') : AE' := fun s C P => a s C fun d C1 => match d with
  | .ce p => (match C1 p with | some (.exc nm) => (match isAny isub nm cs with | some b => P (.bl b) C1 | none => False) | _ => False)
  | _ => False
/-- a class's expression -/
structure AC (X : Cx) (e : Expr) (v : V) (u : Value) (x : Str) : Prop where
  pe : PE X e (tC v)
  cv : ClsV v u
  cn : clsN X.mg x u
inductive ACs (X : Cx) : List Expr → TA → List V → List Value → List Str → Prop
  | nil : ACs X [] tNil [] [] []
  | cons {e : Expr} {es : List Expr} {v : V} {u : Value} {x : Str} {t : TA} {vs : List V} {us : List Value} {xs : List Str} (h : AC X e v u x) (r : ACs X es t vs us xs) (he : starEach (e :: es) X.env = (false, eval e X.env) :: starEach es X.env) :
      ACs X (e :: es) (tCons (tC v) t) (v :: vs) (u :: us) (x :: xs)
section
variable {X : Cx} {es : List Expr} {t : TA} {vs : List V} {us : List Value} {xs : List Str}
theorem ACs.pa (h : ACs X es t vs us xs) : PA X es t := by
  induction h with
  | nil => exact pa_nil
  | cons h r he ih => exact pa_cons h.pe ih he
theorem ACs.run (h : ACs X es t vs us xs) : ∀ {σ : L2.St} {H : Hp} {Q : List V → Hp → Prop}, Q vs H → t σ H Q := by
  induction h with
  | nil => exact fun q => q
  | cons h r he ih => exact fun {σ H Q} q => ih (Q := fun ws H2 => Q (_ :: ws) H2) q
theorem ACs.len (h : ACs X es t vs us xs) : vs.length = es.length := by
  induction h with
  | nil => rfl
  | cons h r he ih => rw [List.length_cons, List.length_cons, ih]
theorem ACs.any (h : ACs X es t vs us xs) {isub : Str → Str → Option Bool} (f : IsF X.K X.mg isub) {nm : Str} {cls : Value} {b : Bool} (hm : X.mg nm = some cls) : isAny isub nm xs = some b → PySem.W.kitAny X.K cls us = some b := by
  induction h with
  | nil => exact fun e => e
  | @cons e es v u x t vs us xs h r he ih =>
    intro e
    unfold isAny at e
    unfold PySem.W.kitAny
    split at e
    · rename_i q
      obtain ⟨D, _, _, k⟩ := f nm x true cls u q hm h.cn
      rw [k]
      exact e
    · rename_i q
      obtain ⟨D, _, _, k⟩ := f nm x false cls u q hm h.cn
      rw [k]
      exact ih e
    · cases e
end
section
variable {C : AH} {P : D → AH → Prop} {s : ASt} {e : AE'}
def kIsX (isub : Str → Str → Option Bool) (cs : List Str) (P : D → AH → Prop) : D → AH → Prop := fun d C1 => match d with
  | .ce p => (match C1 p with | some (.exc nm) => (match isAny isub nm cs with | some b => P (.bl b) C1 | none => False) | _ => False)
  | _ => False
theorem g_isX {isub : Str → Str → Option Bool} {cs : List Str} (h : e s C (kIsX isub cs P)) : aIsX isub cs e s C P := h
end
end AL
namespace AL
open PySem PySem.Spec PyProof.Rows L2
end AL
namespace AL
open PySem L2
end AL
namespace AL
open PySem L2
theorem valD_put (es : List (Key × D)) (k k' : Key) (d : D) : valD (putD es k d) k' = if k' = k then some d else valD es k' := by
  induction es with
  | nil =>
    unfold putD
    rw [if_neg (by simp)]
    by_cases e : k' = k
    · subst e; simp [valD]
    · rw [if_neg e]
      have : ¬ k = k' := fun z => e z.symm
      simp [valD, this]
  | cons x es ih =>
    unfold putD at ih ⊢
    by_cases hx : x.1 = k
    · rw [if_pos (by simp [hx])]
      rw [List.map_cons, if_pos hx]
      by_cases e : k' = k
      · subst e
        rw [if_pos rfl]
        simp [valD, hx]
      · rw [if_neg e]
        have hne : ¬ x.1 = k' := fun z => e (by rw [← z, hx])
        have ih2 : valD (es.map fun kv => if kv.1 = k then (kv.1, d) else kv) k' = valD es k' := by
          by_cases ha : (es.any fun kv => decide (kv.1 = k)) = true
          · rw [if_pos ha, if_neg e] at ih; exact ih
          · have : es.map (fun kv => if kv.1 = k then (kv.1, d) else kv) = es := by
              refine (List.map_congr_left fun kv hkv => ?_).trans (List.map_id es)
              have : ¬ kv.1 = k := fun z => ha (List.any_eq_true.mpr ⟨kv, hkv, decide_eq_true z⟩)
              rw [if_neg this]; rfl
            rw [this]
        simp only [valD, List.find?_cons, decide_eq_false hne] at ih2 ⊢
        exact ih2
    · by_cases ha : (es.any fun kv => decide (kv.1 = k)) = true
      · rw [if_pos ha] at ih
        rw [if_pos (by simp only [List.any_cons, ha, Bool.or_true])]
        rw [List.map_cons, if_neg hx]
        by_cases h2 : x.1 = k'
        · have e : ¬ k' = k := fun z => hx (h2.trans z)
          rw [if_neg e]
          simp [valD, h2]
        · simp only [valD, List.find?_cons, decide_eq_false h2] at ih ⊢
          exact ih
      · rw [if_neg ha] at ih
        rw [if_neg (by simp only [List.any_cons, decide_eq_false hx, Bool.false_or]; exact ha)]
        rw [List.cons_append]
        by_cases h2 : x.1 = k'
        · have e : ¬ k' = k := fun z => hx (h2.trans z)
          rw [if_neg e]
          simp [valD, h2]
        · simp only [valD, List.find?_cons, decide_eq_false h2] at ih ⊢
          exact ih
/-- a dict with numbers from 0 for keys, as what it holds -/
structure Mp (es : List (Key × D)) (L : List Nat) (f : Nat → Option D) : Prop where
  ky : Ky es L
  nd : L.Nodup
  at' : ∀ m, valD es (nk m) = f m
theorem Mp.nil : Mp [] [] fun _ => none := ⟨rfl, List.nodup_nil, fun _ => rfl⟩
theorem Mp.put {es : List (Key × D)} {L : List Nat} {f : Nat → Option D} (h : Mp es L f) (n : Nat) (d : D) : Mp (putD es (nk n) d) (addN L n) fun m => if m = n then some d else f m := by
  refine ⟨h.ky.put n, nodup_addN h.nd, fun m => ?_⟩
  rw [valD_put, h.at']
  by_cases e : m = n
  · subst e; rw [if_pos rfl, if_pos rfl]
  · rw [if_neg e, if_neg (fun z => e (nk_inj z))]
theorem Mp.mem {es : List (Key × D)} {L : List Nat} {f : Nat → Option D} (h : Mp es L f) (n : Nat) : n ∈ L ↔ (f n).isSome = true := by
  rw [← h.at', h.ky.val, decide_eq_true_iff]
section
variable {C : AH} {P : D → AH → Prop} {s : ASt} {q : Addr} {es : List (Key × D)} {o i e : AE'} {nx : ASt → AH → Prop} {rt : D → AH → Prop} {bk ct : ASt → AH → Prop}
def kGetK (x : D) (P : D → AH → Prop) : D → AH → Prop := fun y C2 => match asK C2 x, AL.keyOf y with
  | some es, some k => (match valD es k with | some d => P d C2 | none => False)
  | _, _ => False
theorem g_getK (h : o s C fun x C1 => i s C1 (kGetK x P)) : aGetK o i s C P := h
theorem g_kGetK {x y : D} {k : Key} {d : D} (h1 : asK C x = some es) (h2 : AL.keyOf y = some k) (h3 : valD es k = some d) (h : P d C) : kGetK x P y C := by
  unfold kGetK
  rw [h1, h2]
  show (match valD es k with | some d => P d C | none => False)
  rw [h3]
  exact h
def kInK (neg : Bool) (y : D) (P : D → AH → Prop) : D → AH → Prop := fun x C2 => match asK C2 x, AL.keyOf y with
  | some es, some k => P (.bl (if neg then !(valD es k).isSome else (valD es k).isSome)) C2
  | _, _ => False
theorem g_inK {neg : Bool} (h : i s C fun y C1 => o s C1 (kInK neg y P)) : aInK neg i o s C P := h
theorem g_kInK {neg : Bool} {x y : D} {k : Key} (h1 : asK C x = some es) (h2 : AL.keyOf y = some k) (h : P (.bl (if neg then !(valD es k).isSome else (valD es k).isSome)) C) : kInK neg y P x C := by
  unfold kInK
  rw [h1, h2]
  exact h
def kPutK (d x : D) (nx : ASt → AH → Prop) (s : ASt) : D → AH → Prop := fun y C3 => match x, AL.keyOf y with
  | .ce p, some k => (match C3 p with | some (.dk es) => es.length < sizeLine ∧ nx s (put C3 p (.dk (putD es k d))) | _ => False)
  | _, _ => False
theorem g_putKG (h : e s C fun d C1 => o s C1 fun x C2 => i s C2 (kPutK d x nx s)) : aPutK o i e ⟨nx, rt, bk, ct⟩ s C := h
theorem g_kPutKG {d y : D} {k : Key} (hC : C q = some (.dk es)) (h2 : AL.keyOf y = some k) (hl : es.length < sizeLine) (h : nx s (put C q (.dk (putD es k d)))) : kPutK d (.ce q) nx s y C := by
  unfold kPutK
  rw [h2]
  show (match C q with | some (.dk es) => es.length < sizeLine ∧ nx s (put C q (.dk (putD es k d))) | _ => False)
  rw [hC]
  exact ⟨hl, h⟩
def kGetN (x : D) (P : D → AH → Prop) : D → AH → Prop := fun y C2 => match lookD C2 x y with
  | some (some d) => P d C2
  | _ => False
theorem g_getN (h : o s C fun x C1 => i s C1 (kGetN x P)) : aGetN o i s C P := h
def kInN (neg : Bool) (y : D) (P : D → AH → Prop) : D → AH → Prop := fun x C2 => match lookD C2 x y with
  | some r => P (.bl (if neg then !r.isSome else r.isSome)) C2
  | none => False
theorem g_inN {neg : Bool} (h : i s C fun y C1 => o s C1 (kInN neg y P)) : aInN neg i o s C P := h
def kGet1N (i : AE') (s : ASt) (P : D → AH → Prop) : D → AH → Prop := fun x C1 => isDic C1 x = true ∧ i s C1 fun y C2 => match lookD C2 x y with
  | some r => P (r.getD .non) C2
  | none => False
theorem g_get1N (h : o s C (kGet1N i s P)) : aGet1N o i s C P := h
def kPutN (d x : D) (nx : ASt → AH → Prop) (s : ASt) : D → AH → Prop := fun y C3 => match x with
  | .ce p => (match C3 p with
    | some (.dk es) => (match AL.keyOf y with | some k => es.length < sizeLine ∧ nx s (put C3 p (.dk (putD es k d))) | none => False)
    | some (.dn es) => (match keyT y with | some k => es.length < sizeLine ∧ nx s (put C3 p (.dn (putND es k d))) | none => False)
    | some (.dw none es) => (match keyT y with | some _ => es.length < sizeLine ∧ nx s (put C3 p (.dw none (putW es y d))) | none => False)
    | _ => False)
  | _ => False
theorem g_putN (h : e s C fun d C1 => o s C1 fun x C2 => i s C2 (kPutN d x nx s)) : aPutN o i e ⟨nx, rt, bk, ct⟩ s C := h
end
end AL
namespace AL
open PySem L2
/-- a stand leads to a stand -/
def Fw (goes : List (List (Option Nat))) (a b : Nat) : Prop := ∃ r, goes[a]? = some r ∧ some b ∈ r
theorem Fw.lt {sg : Nat} {ends : List Bool} {goes : List (List (Option Nat))} (M : Mach sg ends goes) {a b : Nat} (h : Fw goes a b) : a < ends.length ∧ b < ends.length := by
  obtain ⟨r, h1, h2⟩ := h
  exact ⟨by rw [M.len]; exact (List.getElem?_eq_some_iff.mp h1).1, M.go r (List.mem_of_getElem? h1) b h2⟩
section
variable {C : AH} {P : D → AH → Prop} {q : Addr}
theorem g_ninNats {n : Nat} {ns : List Nat} (h : P (.bl (!decide (n ∈ ns))) C) : aNinL (.int (n : Int)) (.lst (natsD ns)) C P := by
  show (match toV (.int (n : Int)), (some (natsD ns)).bind toVs with | some u, some us => P (.bl (if true then !inV u us else inV u us)) C | _, _ => False)
  rw [show (some (natsD ns)).bind toVs = toVs (natsD ns) from rfl, toVs_nats]
  show P (.bl (!inV (.int (n : Int)) _)) C
  rw [inV_nats]
  exact h
end
theorem get_goC {goes : List (List (Option Nat))} {C : AH} {P : D → AH → Prop} {u : Nat} (hu : u < goes.length) (h : P (.lst (goes[u].map oD)) C) : aIx (goesD goes) (.int (u : Int)) C P := by
  refine g_ixL (d := .lst (goes[u].map oD)) (atI_nat' ?_) h
  rw [List.getElem?_map, List.getElem?_eq_getElem hu]
  rfl
/-- a dict from numbers to numbers -/
abbrev Mn (es : List (Key × D)) (L : List Nat) (f : Nat → Option Nat) : Prop := Mp es L fun m => (f m).map fun (v : Nat) => D.int (v : Int)
theorem Mn.put {es : List (Key × D)} {L : List Nat} {f : Nat → Option Nat} (h : Mn es L f) (n v : Nat) : Mn (putD es (nk n) (.int (v : Int))) (addN L n) fun m => if m = n then some v else f m := by
  have := Mp.put h n (.int (v : Int))
  refine ⟨this.ky, this.nd, fun m => ?_⟩
  rw [this.at' m]
  by_cases e : m = n
  · simp [e]
  · simp [e]
end AL
namespace AL
open PySem PySem.Spec PyProof.Rows L2
end AL
namespace AL
open PySem PySem.Spec PyProof.Rows L2
end AL
namespace AL
open PySem PySem.Spec PyProof.Rows L2
end AL
namespace AL
open PySem PySem.Spec PyProof.Rows L2
end AL
namespace AL
open PySem PySem.Spec PyProof.Rows L2
end AL
namespace AL
open PySem PySem.Spec PyProof.Rows L2
end AL
namespace AL
open PySem PySem.Spec PyProof.Rows L2
end AL
namespace AL
open PySem PySem.Spec PyProof.Rows L2
open PyProof.Rows (envOfC)
variable {B : Bs}
def putFD (f : Str) (v : D) : List (Str × D) → List (Str × D)
  | [] => [(f, v)]
  | (g, x) :: r => if g = f then (g, v) :: r else (g, x) :: putFD f v r
theorem RepF.put {K : PySem.W.Frag} {F : Hp} {f : Str} {v : V} {d : D} (q : Rep K F v d) : ∀ {fs : List (Str × V)} {es : List (Str × D)}, RepF K F fs es → RepF K F (putF f v fs) (putFD f d es)
  | _, _, .nil => .cons q .nil
  | _, _, .cons (k := k) r t => by
    unfold putF putFD
    by_cases h : k = f
    · rw [if_pos h, if_pos h]; exact .cons q t
    · rw [if_neg h, if_neg h]; exact .cons r (RepF.put q t)
theorem RepF.length {K : PySem.W.Frag} {F : Hp} : ∀ {fs : List (Str × V)} {es : List (Str × D)}, RepF K F fs es → fs.length = es.length
  | _, _, .nil => rfl
  | _, _, .cons _ t => by rw [List.length_cons, List.length_cons, RepF.length t]
/-- o.f -/
def aFld (nm f : Str) (a : AE') : AE' := fun s C P => a s C fun x C1 => match x with
  | .ce p => (match C1 p with | some (.ob n es) => n = nm ∧ (match es.lookup f with | some d => P d C1 | none => False) | _ => False)
  | _ => False
/-- o.f = e -/
def aFldPut (nm f : Str) (o v : AE') : AS' := fun E s C => v s C fun y C1 => o s C1 fun x C2 => match x with
  | .ce p => (match C2 p with | some (.ob n es) => n = nm ∧ es.length < 1000 ∧ E.nx s (put C2 p (.ob nm (putFD f y es))) | _ => False)
  | _ => False
/-- o.m(..) -/
def aMth (nm m : Str) (asp : ASp) (o : AE') (a : AA') : AE' := fun s C P => o s C fun x C1 => match x with
  | .ce p => (match C1 p with | some (.ob n es) => n = nm ∧ es.lookup m = none ∧ a s C1 fun ds C2 => asp (.ce p :: ds) C2 P | _ => False)
  | _ => False
def aMthX (W : AX') (nm m : Str) (asp : ASpX) (o : AE') (a : AA') : AE' := fun s C P => o s C fun x C1 => match x with
  | .ce p => (match C1 p with | some (.ob n es) => n = nm ∧ es.lookup m = none ∧ a s C1 fun ds C2 => asp (.ce p :: ds) C2 P (W s) | _ => False)
  | _ => False
/-- C(..) -/
def aMake (nm : Str) (asp : ASp) (a : AA') : AE' := fun s C P => a s C fun ds C1 => ∀ p, C1 p = none → asp (.ce p :: ds) (put C1 p (.ob nm [])) fun v C2 => v = .non ∧ P (.ce p) C2
def aSetd (o i e : AE') : AE' := fun s C P => o s C fun x C1 => (asK C1 x).isSome = true ∧ i s C1 fun y C2 => e s C2 fun z C3 => match x, keyOf y with
  | .ce p, some k => (match C3 p with | some (.dk es) => es.length < sizeLine ∧ (match valD es k with | some d => P d C3 | none => P z (put C3 p (.dk (putD es k z)))) | _ => False)
  | _, _ => False
end AL
namespace AL
open PySem L2
section
variable {C : AH} {P : D → AH → Prop} {s : ASt} {q : Addr} {es : List (Str × D)} {o v a i e : AE'} {as : AA'} {asp : ASp} {nm f m : Str} {nx : ASt → AH → Prop} {rt : D → AH → Prop} {bk ct : ASt → AH → Prop}
def kFld (nm f : Str) (P : D → AH → Prop) : D → AH → Prop := fun x C1 => match x with
  | .ce p => (match C1 p with | some (.ob n es) => n = nm ∧ (match es.lookup f with | some d => P d C1 | none => False) | _ => False)
  | _ => False
theorem g_fld (h : a s C (kFld nm f P)) : aFld nm f a s C P := h
def kFldPut (nm f : Str) (y : D) (nx : ASt → AH → Prop) (s : ASt) : D → AH → Prop := fun x C2 => match x with
  | .ce p => (match C2 p with | some (.ob n es) => n = nm ∧ es.length < 1000 ∧ nx s (put C2 p (.ob nm (putFD f y es))) | _ => False)
  | _ => False
theorem g_fldPut (h : v s C fun y C1 => o s C1 (kFldPut nm f y nx s)) : aFldPut nm f o v ⟨nx, rt, bk, ct⟩ s C := h
def kMth (nm m : Str) (asp : ASp) (as : AA') (s : ASt) (P : D → AH → Prop) : D → AH → Prop := fun x C1 => match x with
  | .ce p => (match C1 p with | some (.ob n es) => n = nm ∧ es.lookup m = none ∧ as s C1 fun ds C2 => asp (.ce p :: ds) C2 P | _ => False)
  | _ => False
theorem g_mth (h : o s C (kMth nm m asp as s P)) : aMth nm m asp o as s C P := h
def kMthX (W : AX') (nm m : Str) (asp : ASpX) (as : AA') (s : ASt) (P : D → AH → Prop) : D → AH → Prop := fun x C1 => match x with
  | .ce p => (match C1 p with | some (.ob n es) => n = nm ∧ es.lookup m = none ∧ as s C1 fun ds C2 => asp (.ce p :: ds) C2 P (W s) | _ => False)
  | _ => False
theorem g_mthX {W : AX'} {asp : ASpX} (h : o s C (kMthX W nm m asp as s P)) : aMthX W nm m asp o as s C P := h
theorem g_make (h : as s C fun ds C1 => ∀ p, C1 p = none → asp (.ce p :: ds) (put C1 p (.ob nm [])) fun v C2 => v = .non ∧ P (.ce p) C2) : aMake nm asp as s C P := h
def kSetd2 (x y : D) (P : D → AH → Prop) : D → AH → Prop := fun z C3 => match x, AL.keyOf y with
  | .ce p, some k => (match C3 p with | some (.dk es) => es.length < sizeLine ∧ (match valD es k with | some d => P d C3 | none => P z (put C3 p (.dk (putD es k z)))) | _ => False)
  | _, _ => False
def kSetd (i e : AE') (s : ASt) (P : D → AH → Prop) : D → AH → Prop := fun x C1 => (asK C1 x).isSome = true ∧ i s C1 fun y C2 => e s C2 (kSetd2 x y P)
theorem g_setd (h : o s C (kSetd i e s P)) : aSetd o i e s C P := h
end
end AL
namespace AL
open PySem PySem.Spec PyProof.Rows L2
end AL
namespace AL
open PySem PySem.Spec PyProof.Rows L2
variable {B : Bs}
def aChain3 (r r' r'' : D → D → AH → (D → AH → Prop) → Prop) (a b c d : AE') : AE' := fun s C P => a s C fun x C1 => b s C1 fun y C2 => r x y C2 fun z C3 => match z with
  | .bl true => c s C3 fun w C4 => r' y w C4 fun z2 C5 => (match z2 with
    | .bl true => d s C5 fun v C6 => r'' w v C6 P
    | .bl false => P (.bl false) C5
    | _ => False)
  | .bl false => P (.bl false) C3
  | _ => False
section
variable {C : AH} {P : D → AH → Prop} {s : ASt} {a b c d : AE'} {r r' r'' : D → D → AH → (D → AH → Prop) → Prop}
def kChain3 (r' r'' : D → D → AH → (D → AH → Prop) → Prop) (c d : AE') (y : D) (s : ASt) (P : D → AH → Prop) : D → AH → Prop := fun z C3 => match z with
  | .bl true => c s C3 fun w C4 => r' y w C4 (kChain r'' d w s P)
  | .bl false => P (.bl false) C3
  | _ => False
theorem g_chain3 (h : a s C fun x C1 => b s C1 fun y C2 => r x y C2 (kChain3 r' r'' c d y s P)) : aChain3 r r' r'' a b c d s C P := h
end
end AL
namespace AL
open PySem PySem.Spec PyProof.Rows L2
open PyProof.Rows (envOfC)
end AL
namespace AL
open PySem PySem.Spec PyProof.Rows L2
end AL
namespace AL
open PySem PySem.Spec PyProof.Rows L2
variable {B : Bs}
def isTupM : D → Bool
  | .tup ds => !wkP ds
  | _ => false
def aMethT (m : D → ASp) (o : AE') (a : AA') : AE' := fun s C P => o s C fun x C1 => isTupM x = true ∧ a s C1 fun ds C2 => m x ds C2 P
section
variable {C : AH} {P : D → AH → Prop} {s : ASt} {e : AE'} {aa : AA'}
theorem g_methT {m : D → ASp} (h : e s C fun x C1 => isTupM x = true ∧ aa s C1 fun ds C2 => m x ds C2 P) : aMethT m e aa s C P := h
theorem isTupM_map (ys : List Str) : isTupM (.tup (ys.map D.str)) = true := by
  cases ys with
  | nil => rfl
  | cons y l => rfl
theorem g_tyT {ys : List Str} {A : Prop} (h : A) : isTupM (.tup (ys.map D.str)) = true ∧ A := ⟨isTupM_map ys, h⟩
end
end AL
namespace AL
open PySem PySem.Spec PyProof.Rows L2
end AL
namespace AL
open PySem PySem.Spec PyProof.Rows L2
variable {B : Bs}
def downD (hi : Int) (n : Nat) : List D := (List.range n).map fun (i : Nat) => D.int (hi - i)
def aIR3 (a : AA') : AI' := fun s C P => a s C fun ds C1 => match ds with | [.int i, .int j, .int c] => (c = -1 ∧ -(2 ^ 62) ≤ i ∧ i < 2 ^ 62 ∧ -(2 ^ 62) ≤ j ∧ j < 2 ^ 62) ∧ P (downD i (i - j).toNat) (fun _ => True) C1 | _ => False
section
variable {s : ASt} {C : AH} {PI : List D → (AH → Prop) → AH → Prop} {aa : AA'}
def kIR3 (PI : List D → (AH → Prop) → AH → Prop) : List D → AH → Prop := fun ds C1 => match ds with | [.int i, .int j, .int c] => (c = -1 ∧ -(2 ^ 62) ≤ i ∧ i < 2 ^ 62 ∧ -(2 ^ 62) ≤ j ∧ j < 2 ^ 62) ∧ PI (downD i (i - j).toNat) (fun _ => True) C1 | _ => False
theorem g_ir3 (h : aa s C (kIR3 PI)) : aIR3 aa s C PI := h
theorem g_kIR3 {i j : Int} (h1 : -(2 ^ 62) ≤ i ∧ i < 2 ^ 62 ∧ -(2 ^ 62) ≤ j ∧ j < 2 ^ 62) (h : PI (downD i (i - j).toNat) (fun _ => True) C) : kIR3 PI [.int i, .int j, .int (-1)] C := ⟨⟨rfl, h1⟩, h⟩
end
end AL
namespace AL
open PySem PySem.Spec PyProof.Rows L2
open PyProof.Rows (envOfC)
variable {B : Bs}
/-- raise X(e), X a class whose __init__ stores e -/
def aRaiseI (W : AX') (nm : Str) (a : AA') : AS' := fun _ s C => a s C fun ds C1 => ds.length = 1 ∧ W s nm C1
section
variable {W : AX'} {s : ASt} {C : AH} {nm : Str} {a : AA'} {E : AEnds}
def kRI (W : AX') (nm : Str) (s : ASt) : List D → AH → Prop := fun ds C1 => ds.length = 1 ∧ W s nm C1
theorem g_raiseI (h : a s C (kRI W nm s)) : aRaiseI W nm a E s C := h
theorem g_kRI {d : D} (h : W s nm C) : kRI W nm s [d] C := ⟨rfl, h⟩
end
end AL
namespace AL
open PySem PySem.Spec PyProof.Rows L2
variable {B : Bs}
theorem RepW.get {K : PySem.W.Frag} {F : Hp} : ∀ {xs : List (NestedKey × Addr × V)} {es : List (D × D)} {i : Nat} {x : NestedKey × Addr × V}, RepW K F xs es → xs[i]? = some x → ∃ e, es[i]? = some e ∧ Rep K F (.ref x.2.1) e.1 ∧ Rep K F x.2.2 e.2
  | _, _, _, _, .nil, e => by simp at e
  | _, _, 0, _, .cons a _ r _, e => by simp at e; subst e; exact ⟨_, rfl, a, r⟩
  | _, _, i + 1, x, .cons _ _ _ t, e => by
    obtain ⟨u, h1, h2⟩ := RepW.get (i := i) (x := x) t (by simpa using e)
    exact ⟨u, by simpa using h1, h2⟩
theorem RepW.len {K : PySem.W.Frag} {F : Hp} : ∀ {xs : List (NestedKey × Addr × V)} {es : List (D × D)}, RepW K F xs es → xs.length = es.length
  | _, _, .nil => rfl
  | _, _, .cons _ _ _ t => by rw [List.length_cons, List.length_cons, RepW.len t]
/-- for k in d, the keys told -/
def aIKW (a : AE') : AI' := fun s C P => a s C fun x C1 => match x with
  | .ce p => (match C1 p with
    | some (.dw none es) => ∀ l, P (es.map (·.1)) (fun C' => C' p = some (.dw (some l) es)) (put C1 p (.dw (some l) es))
    | some (.dw (some l) es) => P (es.map (·.1)) (fun C' => C' p = some (.dw (some l) es)) C1
    | _ => False)
  | _ => False
/-- for k, v in d.items(), the keys told -/
def aIIW (a : AE') : AI' := fun s C P => a s C fun x C1 => match x with
  | .ce p => (match C1 p with
    | some (.dw none es) => ∀ l, P (es.map fun e => .tup [e.1, e.2]) (fun C' => C' p = some (.dw (some l) es)) (put C1 p (.dw (some l) es))
    | some (.dw (some l) es) => P (es.map fun e => .tup [e.1, e.2]) (fun C' => C' p = some (.dw (some l) es)) C1
    | _ => False)
  | _ => False
def aDict0W : AE' := fun _ C P => ∀ p, C p = none → P (.ce p) (put C p (.dw none []))
def aDispW (ak av : AE') : AE' := fun s C P => ak s C fun dk C1 => av s C1 fun dv C2 => match keyT dk with
  | some _ => ∀ p, C2 p = none → P (.ce p) (put C2 p (.dw none [(dk, dv)]))
  | none => False
section
variable {C : AH} {P : D → AH → Prop} {p q : Addr}
theorem g_dict0W {s : ASt} (h : ∀ p, C p = none → P (.ce p) (put C p (.dw none []))) : aDict0W s C P := h
def kDispW (P : D → AH → Prop) (dk : D) : D → AH → Prop := fun dv C2 => match keyT dk with
  | some _ => ∀ p, C2 p = none → P (.ce p) (put C2 p (.dw none [(dk, dv)]))
  | none => False
theorem g_dispW {s : ASt} {ak av : AE'} (h : ak s C fun dk C1 => av s C1 (kDispW P dk)) : aDispW ak av s C P := h
end
end AL
namespace AL
open PySem PySem.Spec PyProof.Rows L2
variable {B : Bs}
section
variable {C : AH} {s : ASt} {e : AE'} {PI : List D → (AH → Prop) → AH → Prop} {p : Addr} {es : List (D × D)}
def kIKW (PI : List D → (AH → Prop) → AH → Prop) : D → AH → Prop := fun x C1 => match x with
  | .ce p => (match C1 p with
    | some (.dw none es) => ∀ l, PI (es.map (·.1)) (fun C' => C' p = some (.dw (some l) es)) (put C1 p (.dw (some l) es))
    | some (.dw (some l) es) => PI (es.map (·.1)) (fun C' => C' p = some (.dw (some l) es)) C1
    | _ => False)
  | _ => False
theorem g_ikw (h : e s C (kIKW PI)) : aIKW e s C PI := h
def kIIW (PI : List D → (AH → Prop) → AH → Prop) : D → AH → Prop := fun x C1 => match x with
  | .ce p => (match C1 p with
    | some (.dw none es) => ∀ l, PI (es.map fun e => .tup [e.1, e.2]) (fun C' => C' p = some (.dw (some l) es)) (put C1 p (.dw (some l) es))
    | some (.dw (some l) es) => PI (es.map fun e => .tup [e.1, e.2]) (fun C' => C' p = some (.dw (some l) es)) C1
    | _ => False)
  | _ => False
theorem g_iiw (h : e s C (kIIW PI)) : aIIW e s C PI := h
end
section
variable {C : AH} {s : ASt} {e2 : AE'} {P : D → AH → Prop}
theorem g_kAndF (h : P (.bl false) C) : kAndV e2 s P (.bl false) C := g_kAnd (fun z => nomatch z) fun _ => h
theorem g_kAndT (h : e2 s C P) : kAndV e2 s P (.bl true) C := g_kAnd (fun _ => h) fun z => nomatch z
theorem g_kOrF (h : e2 s C P) : kOrV e2 s P (.bl false) C := g_kOr (fun z => nomatch z) fun _ => h
theorem g_kOrT (h : P (.bl true) C) : kOrV e2 s P (.bl true) C := g_kOr (fun _ => h) fun z => nomatch z
end
end AL
namespace AL
open PySem PySem.Spec PyProof.Rows L2
variable {B : Bs}
def IsLs (h : Heap) (a : Addr) (xs : List Value) : Prop := ∃ n, h.get? a = some { cls := .type "list", data := .seq xs.toArray n }
theorem args_sum2 (a b : Value) : argsOk "sum" ⟨[a, b], []⟩ := by unfold argsOk; kernel_rfl
theorem sub_list_strS : isSubtype (.type "list") (.type "str") = pure false := by rw [isSubtype_type]; kernel_rfl
theorem sub_list_bytesS : isSubtype (.type "list") (.type "bytes") = pure false := by rw [isSubtype_type]; kernel_rfl
theorem sub_list_bytearrayS : isSubtype (.type "list") (.type "bytearray") = pure false := by rw [isSubtype_type]; kernel_rfl
section
variable {prog : Program} {w : World} {A : Around} {R : Result → Shared → Prop} {I l : Addr} {n : Nat}
/-- the first i lists, one behind the other -/
def catV (its : Nat → List Value) : Nat → List Value
  | 0 => []
  | i + 1 => catV its i ++ its i
theorem catV_le (its : Nat → List Value) {n i : Nat} (h : i ≤ n) : (catV its i).length ≤ (catV its n).length := by
  induction h with
  | refl => exact Nat.le_refl _
  | step _ ih => rw [catV, List.length_append]; omega
theorem sumL (hh : A.in1.handled = none) (q : Nat → Addr) (its : Nat → List Value) (items : Array Value) (hn : items.size = n) (hq : ∀ i, i < n → items[i]? = some (.ref (q i))) (S : Addr) (hSI : S ≠ I) (hlI : l ≠ I) (hlS : l ≠ S) (hz : (catV its n).length ≤ sizeLine) :
    ∀ (k i : Nat) (s : Shared) (acc : Addr) (c : Nat), n - i = k → i ≤ n → s.heap.IsListIter I l i → s.heap.IsList l items → s.heap.get? S = some { cls := .type "list", dict := none, data := .seq #[.ref acc] c, slots := #[] } → IsLs s.heap acc (catV its i) → acc ≠ S → acc ≠ I →
      (∀ j, i ≤ j → j < n → IsLs s.heap (q j) (its j) ∧ q j ≠ S ∧ q j ≠ I) →
    (∀ (h' : Heap) (tk : Tok) (acc' : Addr), (∀ b o, b ≠ S → b ≠ I → s.heap.get? b = some o → h'.get? b = some o) → IsLs h' acc' (catV its n) → (acc' = acc ∧ i = n ∨ s.heap.objs.size ≤ acc') → R (.ok (.ret (.ref acc'))) { s with heap := h', toks := tk }) → codeAny (model prog w) A (.builtin "sum.loop" ⟨[.ref I, .ref S, rawInt 2, rawInt 0], []⟩) R s := by
  intro k
  induction k with
  | zero =>
    intro i s acc c hk hi hit hl hS ha haS haI hqs hR
    obtain rfl : i = n := by omega
    refine codeAny_builtin (b := Builtin.«sum.loop») F.entry_sum_loop ?_; rw [Around.under_plainId F.plain_sum_loop]
    refine wpAny_bind (m := seqItems? (.ref S)) (wpAny_seqItems hS rfl (wpAny_bind (m := tryCatch (pyNext (.ref I)) _) ?_))
    refine wpAny_tryCatch (wpAny_pyNext_list_end hh hit hl (Array.getElem?_eq_none (by omega)) fun h' hx => wpAny_pure (hR h' s.toks acc (fun b o _ hb e => hx b o hb e) ?_ (.inl ⟨rfl, rfl⟩)))
    obtain ⟨m, e⟩ := ha
    exact ⟨m, hx _ _ haI e⟩
  | succ k ih =>
    intro i s acc c hk hi hit hl hS ha haS haI hqs hR
    have hlt : i < n := by omega
    refine codeAny_builtin (b := Builtin.«sum.loop») F.entry_sum_loop ?_; rw [Around.under_plainId F.plain_sum_loop]
    refine wpAny_bind (m := seqItems? (.ref S)) (wpAny_seqItems hS rfl (wpAny_bind (m := tryCatch (pyNext (.ref I)) _) ?_))
    refine wpAny_tryCatch (wpAny_pyNext_list_item hit hl (hq i hlt) fun h1 hit1 hsb => ?_)
    have keep1 : ∀ b o, b ≠ I → s.heap.get? b = some o → h1.get? b = some o := fun b o hb e => hsb.extBut b o hb e
    have hS1 := keep1 S _ hSI hS
    obtain ⟨m, ea⟩ := ha
    have ea1 := keep1 acc _ haI ea
    obtain ⟨⟨m2, eq⟩, hqS, hqI⟩ := hqs i (Nat.le_refl _) hlt
    have eq1 := keep1 (q i) _ hqI eq
    have hlen : (catV its i ++ its i).length ≤ sizeLine := Nat.le_trans (catV_le its (i := i + 1) hlt) hz
    have hsz : h1.objs.size = s.heap.objs.size := hsb.1
    show wpAny _ A.in1 ((holding [Value.ref (q i)] (binaryOp .Add (.ref acc) (.ref (q i)))).attempt >>= _) _ _ _
    refine wpAny_bind (wpAny_attempt (wpAny_holding (PySem.P.add_list ea1 eq1 ?_ (by rw [List.size_toArray, List.size_toArray, ← List.length_append]; exact hlen))))
    have ec : (catV its i).toArray ++ (its i).toArray = (catV its (i + 1)).toArray := by simp [catV]
    rw [ec]
    show wpAny _ A.in1 (updateSeq S (fun _ => #[Value.ref h1.objs.size]) >>= _) _ _ { s with heap := h1.push { cls := .type "list", data := .seq (catV its (i + 1)).toArray } }
    have hp : (h1.push { cls := .type "list", data := .seq (catV its (i + 1)).toArray }).get? h1.objs.size = some { cls := .type "list", data := .seq (catV its (i + 1)).toArray } := Heap.get?_push_size _ rfl
    have keep2 : ∀ b o, h1.get? b = some o → (h1.push { cls := .type "list", data := .seq (catV its (i + 1)).toArray }).get? b = some o := fun b o e => Heap.get?_push_of_some _ e
    have hsz2 : (h1.push { cls := .type "list", data := .seq (catV its (i + 1)).toArray }).objs.size = h1.objs.size + 1 := Heap.size_push _ _
    have hltS : S < h1.objs.size := Heap.lt_size hS1
    have hltI : I < h1.objs.size := by obtain ⟨o, e, _⟩ := hit1; exact Heap.lt_size e
    generalize h1.push { cls := .type "list", data := .seq (catV its (i + 1)).toArray } = h2 at hp keep2 hsz2 ⊢
    have hS2 := keep2 _ _ hS1
    refine wpAny_bind (wpAny_updateSeq hS2 rfl (wpAny_bind (wpAny_letGo ?_)))
    have hS3 := Heap.get?_update_self (Obj.mapSeq fun _ => #[Value.ref h1.objs.size]) hS2 rfl
    have keep3 : ∀ b o, b ≠ S → h2.get? b = some o → (h2.update S (Obj.mapSeq fun _ => #[Value.ref h1.objs.size])).get? b = some o := fun b o hb e => (Heap.get?_update_other _ _ (Ne.symm hb)).trans e
    have hsz3 : (h2.update S (Obj.mapSeq fun _ => #[Value.ref h1.objs.size])).objs.size = h2.objs.size := (Heap.SameBut.update h2 S _).1
    generalize h2.update S (Obj.mapSeq fun _ => #[Value.ref h1.objs.size]) = h3 at hS3 keep3 hsz3 ⊢
    refine wpAny_bind (wpAny_updateSeq hS3 rfl ?_)
    have hS4 := Heap.get?_update_self (Obj.mapSeq fun _ => #[Value.ref h1.objs.size]) hS3 rfl
    have keep4 : ∀ b o, b ≠ S → h3.get? b = some o → (h3.update S (Obj.mapSeq fun _ => #[Value.ref h1.objs.size])).get? b = some o := fun b o hb e => (Heap.get?_update_other _ _ (Ne.symm hb)).trans e
    have hsz4 : (h3.update S (Obj.mapSeq fun _ => #[Value.ref h1.objs.size])).objs.size = h3.objs.size := (Heap.SameBut.update h3 S _).1
    generalize h3.update S (Obj.mapSeq fun _ => #[Value.ref h1.objs.size]) = h4 at hS4 keep4 hsz4 ⊢
    have kA : ∀ b o, b ≠ S → b ≠ I → s.heap.get? b = some o → h4.get? b = some o := fun b o h5 h6 e => keep4 b o h5 (keep3 b o h5 (keep2 b o (keep1 b o h6 e)))
    have kB : ∀ b o, b ≠ S → h1.get? b = some o → h4.get? b = some o := fun b o h5 e => keep4 b o h5 (keep3 b o h5 (keep2 b o e))
    refine wpAny_pure ⟨plainId_quiet F.plain_sum_loop _, ih (i + 1) _ h1.objs.size _ (by omega) hlt ?_ ?_ hS4 ?_ (Nat.ne_of_gt hltS) (Nat.ne_of_gt hltI) (fun j h5 h6 => ?_) fun h' tk acc' h5 h6 h7 => ?_⟩
    · exact hit1.at fun o e => kB I o hSI.symm e
    · exact hl.at fun o e => kA l o hlS hlI e
    · exact ⟨0, keep4 _ _ (Nat.ne_of_gt hltS) (keep3 _ _ (Nat.ne_of_gt hltS) hp)⟩
    · obtain ⟨⟨m3, e3⟩, h8, h9⟩ := hqs j (by omega) h6
      exact ⟨⟨m3, kA _ _ h8 h9 e3⟩, h8, h9⟩
    · refine hR h' tk acc' (fun b o h8 h9 e => h5 b o h8 h9 (kA b o h8 h9 e)) h6 (.inr ?_)
      rcases h7 with ⟨rfl, _⟩ | h7
      · omega
      · have : h4.objs.size ≤ acc' := h7
        omega
end
section
variable {prog : Program} {w : World} {A : Around} {E : Value → Shared → Prop} {s : Shared}
theorem callSumL {l b : Addr} {n : Nat} {q : Nat → Addr} {its : Nat → List Value} {items : Array Value} {Q : Value → Shared → Prop} (hh : A.handled = none) (hl : s.heap.IsList l items) (hn : items.size = n) (hq : ∀ i, i < n → items[i]? = some (.ref (q i))) (hb : IsLs s.heap b []) (hqs : ∀ j, j < n → IsLs s.heap (q j) (its j)) (hz : (catV its n).length ≤ sizeLine)
    (h : ∀ (h' : Heap) (tk : Tok) (acc' : Addr), (∀ b o, s.heap.get? b = some o → h'.get? b = some o) → IsLs h' acc' (catV its n) → (acc' = b ∧ n = 0 ∨ s.heap.objs.size ≤ acc') → Q (.ref acc') { s with heap := h', toks := tk }) :
    wpAny (model prog w) A (call (.builtin "sum") [.ref l, .ref b]) Q E s := by
  refine call_function_tree (b := Builtin.«sum») F.kind_sum F.plain_sum F.entry_sum (args_sum2 _ _) ?_; unfold Builtin.«sum»
  simp only [List.length_cons, List.length_nil]; rw [if_neg (by decide)]
  refine wpAny_bind (wpAny_of_eq (t := Builtin.Builtins.bindParams "sum" ["start"] 0 ⟨[.ref b], []⟩) (a := [some (.ref b)]) rfl ?_)
  obtain ⟨ol, hol, hcl, nl, hdl⟩ := id hl
  obtain ⟨mb, eb⟩ := hb
  refine wpAny_bind (wpAny_pyIter_list hl ?_)
  refine wpAny_bind (wpAny_pure ?_)
  simp only [List.forIn_cons, List.forIn_nil]
  have k1 : ∀ c o, s.heap.get? c = some o → (s.heap.push { cls := .type "list_iterator", data := .fields #[.ref l, .int 0 0] }).get? c = some o := fun c o e => Heap.get?_push_of_some _ e
  have it1 : (s.heap.push { cls := .type "list_iterator", data := .fields #[.ref l, .int 0 0] }).IsListIter s.heap.objs.size l 0 := ⟨_, Heap.get?_push_size _ rfl, rfl, rfl⟩
  have sz1 : (s.heap.push { cls := .type "list_iterator", data := .fields #[.ref l, .int 0 0] }).objs.size = s.heap.objs.size + 1 := Heap.size_push _ _
  generalize s.heap.push { cls := .type "list_iterator", data := .fields #[.ref l, .int 0 0] } = h1 at k1 it1 sz1 ⊢
  have hT : Shared.TypeIs { s with heap := h1 } (.ref b) "list" := ⟨_, k1 _ _ eb, rfl⟩
  refine wpAny_bind (wpAny_bind (wpAny_bind (wpAny_isInstance (T := "list") (b := false) hT sub_list_strS ?_))); simp only [Bool.false_eq_true, if_false]
  refine wpAny_pure (wpAny_bind (wpAny_bind (wpAny_isInstance (T := "list") (b := false) hT sub_list_bytesS ?_))); simp only [Bool.false_eq_true, if_false]
  refine wpAny_pure (wpAny_bind (wpAny_bind (wpAny_isInstance (T := "list") (b := false) hT sub_list_bytearrayS ?_))); simp only [Bool.false_eq_true, if_false]
  refine wpAny_pure (wpAny_pure (wpAny_bind (wpAny_newObj_type ?_)))
  have k2 : ∀ c o, h1.get? c = some o → (h1.push { cls := .type "list", data := .seq #[.ref b] }).get? c = some o := fun c o e => Heap.get?_push_of_some _ e
  have S2 : (h1.push { cls := .type "list", data := .seq #[.ref b] }).get? h1.objs.size = some { cls := .type "list", data := .seq #[.ref b] } := Heap.get?_push_size _ rfl
  have sz2 : (h1.push { cls := .type "list", data := .seq #[.ref b] }).objs.size = h1.objs.size + 1 := Heap.size_push _ _
  have hlb : b < s.heap.objs.size := Heap.lt_size eb
  have hll : l < s.heap.objs.size := Heap.lt_size hol
  have near : ∀ c : Addr, c < s.heap.objs.size → c ≠ h1.objs.size ∧ c ≠ s.heap.objs.size := fun c hc => by
    have h3 : (c : Nat) < s.heap.objs.size := hc
    refine ⟨fun e => ?_, Nat.ne_of_lt hc⟩
    have e2 : (c : Nat) = h1.objs.size := e
    rw [sz1] at e2
    exact absurd (e2 ▸ h3) (by exact fun z => Nat.lt_irrefl _ (Nat.lt_trans (Nat.lt_succ_self _) z))
  have hS1 : (h1.objs.size : Addr) ≠ s.heap.objs.size := fun e => by
    have e2 : (h1.objs.size : Nat) = s.heap.objs.size := e
    rw [sz1] at e2
    exact absurd e2 (Nat.succ_ne_self _)
  refine wpAny_pure ⟨plainId_quiet F.plain_sum_loop _, sumL hh q its items hn hq h1.objs.size hS1 (near l hll).2 (near l hll).1 hz n 0 _ b _ rfl (Nat.zero_le _) (it1.at fun o e => k2 _ _ e) (hl.at fun o e => k2 _ _ (k1 _ _ e)) S2 ⟨mb, k2 _ _ (k1 _ _ eb)⟩ (near b hlb).1 (near b hlb).2 (fun j _ hj => ?_) fun h' tk acc' h5 h6 h7 => ?_⟩
  · obtain ⟨m, e⟩ := hqs j hj
    exact ⟨⟨m, k2 _ _ (k1 _ _ e)⟩, near _ (Heap.lt_size e)⟩
  · refine h h' tk acc' (fun c o e => ?_) h6 ?_
    · obtain ⟨n1, n2⟩ := near c (Heap.lt_size e)
      exact h5 c o n1 n2 (k2 _ _ (k1 _ _ e))
    · rcases h7 with ⟨e1, e2⟩ | h7
      · exact .inl ⟨e1, e2.symm⟩
      · refine .inr ?_
        have h8 : ((h1.push { cls := .type "list", data := .seq #[.ref b] }).objs.size : Nat) ≤ acc' := h7
        rw [sz2, sz1] at h8
        exact Nat.le_trans (Nat.le_trans (Nat.le_succ _) (Nat.le_succ _)) h8
end
theorem catV_take (itss : List (List Value)) : ∀ i, i ≤ itss.length → catV (fun j => itss.getD j []) i = (itss.take i).flatten
  | 0, _ => rfl
  | i + 1, h => by
    have hi : i < itss.length := h
    rw [catV, catV_take itss i (Nat.le_of_succ_le h), List.take_add_one, List.getElem?_eq_getElem hi, List.flatten_append]
    simp [List.getD, List.getElem?_eq_getElem hi]
theorem lists_of {X : Cx} {pins : List (Addr × Obj)} {σ : L2.St} {H : Hp} {s : Shared} (I : Inv X pins σ H s) : ∀ {qs : List Addr} {yss : List (List V)}, Paired (fun q ys => H q = some (.lst ys)) qs yss →
    ∃ itss : List (List Value), itss.length = qs.length ∧ Vals yss.flatten itss.flatten ∧ ∀ j q, qs[j]? = some q → IsLs s.heap q (itss.getD j [])
  | _, _, .nil => ⟨[], rfl, .nil, fun j q e => by simp at e⟩
  | _, _, .cons (a := q) h t => by
    obtain ⟨itss, hl, hv, hp⟩ := lists_of I t
    obtain ⟨_, its, n, r, _, e⟩ := I.lstM h
    refine ⟨its :: itss, by rw [List.length_cons, List.length_cons, hl], r.append hv, fun j q' e' => ?_⟩
    cases j with
    | zero => cases e'; exact ⟨n, e⟩
    | succ j => exact hp j q' (by simpa using e')
def rSumL (K : PySem.W.Frag) : List V → Hp → VK → Prop := fun vs H Q => ∃ (a b : Addr) (qs : List Addr) (yss : List (List V)), vs = [V.ref a, V.ref b] ∧ SqL K H a (qs.map V.ref) ∧ H b = some (.lst []) ∧ Paired (fun q ys => H q = some (.lst ys)) qs yss ∧ yss.flatten.length ≤ sizeLine ∧
  (qs = [] → Q (.ref b) H) ∧ ∀ p, H p = none → Q (.ref p) (upd H p (.lst yss.flatten))
section
variable {X : Cx} {K : PySem.W.Frag}
theorem cr_sumL (hc : X.calm = true) : CallR X (.builtin "sum") (rSumL X.K) := by
  intro pins s σ H vs us Q I r h
  obtain ⟨a, b, qs, yss, rfl, hs, hb, hp, hz, q0, q1⟩ := h
  obtain ⟨ua, ub, rfl, ra, rb⟩ := vals2 r
  cases ra
  cases rb
  obtain ⟨its, rv, hl, _⟩ := I.list hs
  have ei := refs_at rv
  subst ei
  obtain ⟨itss, hil, hv, hq⟩ := lists_of I hp
  obtain ⟨_, itb, nb, rb, hlb, eb⟩ := I.lstM hb
  have hitb : itb = [] := by
    cases itb with
    | nil => rfl
    | cons x l => simp at hlb
  subst hitb
  have hcat : catV (fun j => itss.getD j []) qs.length = itss.flatten := by
    rw [catV_take itss qs.length (by rw [hil]; exact Nat.le_refl _), ← hil, List.take_length]
  refine callSumL (n := qs.length) (q := fun j => qs.getD j 0) (its := fun j => itss.getD j []) (I.ok.hd hc) hl.isList (by simp) (fun i hi => ?_) ⟨nb, eb⟩ (fun j hj => ?_) (by rw [hcat, ← hv.length]; exact hz) fun h' tk acc' k1 k2 k3 => ?_
  · rw [List.getElem?_toArray, List.getElem?_map, List.getElem?_eq_getElem hi]
    simp [List.getD, List.getElem?_eq_getElem hi]
  · refine hq j _ ?_
    simp [List.getD, List.getElem?_eq_getElem hj]
  · rw [hcat] at k2
    rcases k3 with ⟨rfl, e⟩ | k3
    · have hq0 : qs = [] := List.eq_nil_of_length_eq_zero e
      exact ⟨.ref acc', H, I.kept (t' := tk) fun c o e => k1 c o e, rfl, q0 hq0⟩
    · obtain ⟨m, e⟩ := k2
      refine ⟨.ref acc', _, I.laid (t' := tk) (a := acc') (o := .lst yss.flatten) (fun c o e => k1 c o e) k3 ⟨hz, itss.flatten, m, hv, e⟩, rfl, q1 _ (I.hok.fresh k3)⟩
def mapLs (C : AH) : List D → Option (List (List D))
  | [] => some []
  | d :: ds => match asL C d, mapLs C ds with | some x, some xs => some (x :: xs) | _, _ => none
theorem mapLs_ok {F : Hp} {C : AH} {R H : Hp} (hS : Sat B K F C R H) : ∀ {vs : List V} {ds : List D} {yss : List (List D)}, RepL K F vs ds → mapLs C ds = some yss →
    ∃ (qs : List Addr) (xss : List (List V)), vs = qs.map V.ref ∧ Paired (fun q xs => H q = some (.lst xs)) qs xss ∧ RepL K F xss.flatten yss.flatten
  | [], _, yss, .nil, h => by cases h; exact ⟨[], [], rfl, .nil, .nil⟩
  | v :: vs, d :: ds, yss, .cons r1 r2, h => by
    unfold mapLs at h
    split at h
    · rename_i x xs q1 q2
      cases h
      obtain ⟨qs, xss, rfl, h1, h2⟩ := mapLs_ok hS r2 q2
      obtain ⟨a, zs, rfl, h3, h4⟩ := asL_ok hS r1 q1
      exact ⟨a :: qs, zs :: xss, rfl, .cons h3 h1, h4.append h2⟩
    · cases h
def aSumL : ASp := fun ds C P => match ds with
  | [x, .lst []] => ∃ us yss, asLr C x = some us ∧ mapLs C us = some yss ∧ yss.flatten.length ≤ sizeLine ∧ P (.lst yss.flatten) C
  | _ => False
theorem ac_sumL (hc : X.calm = true := by rfl) (hK : X.K = K := by rfl) : ACa B X (.builtin "sum") (rSumL K) aSumL := by
  subst hK
  exact ⟨cr_sumL hc, by
  intro vs ds F C R H Q P hS r h k
  unfold aSumL at h
  split at h
  · cases r with
    | cons r1 r2 =>
      cases r2 with
      | cons r3 r4 =>
        cases r4
        obtain ⟨us, yss, h1, h2, h3, h4⟩ := h
        obtain ⟨a, xs, rfl, g1, g2⟩ := asLr_ok hS r1 h1
        obtain ⟨qs, xss, rfl, g3, g4⟩ := mapLs_ok hS g2 h2
        cases r3 with
        | lst hb hn =>
          cases hn
          refine ⟨a, _, qs, xss, rfl, g1, hS.ex _ _ hb, g3, by rw [g4.length]; exact h3, fun e => ?_, fun p hp => ?_⟩
          · subst e
            cases g3
            cases g4h : yss.flatten with
            | nil => rw [g4h] at h4; exact k _ _ F C H (Ex.refl F) hS (.lst hb .nil) h4
            | cons x l => rw [g4h] at g4; cases g4
          · have e := Ex.new (o := .lst xss.flatten) (hS.freeF hp)
            exact k _ _ _ C _ e (hS.newF hp _) (.lst upd_same (g4.mono e)) h4
  · exact h.elim⟩
end
section
variable {C : AH} {P : D → AH → Prop}
theorem mapLs_lst (yss : List (List D)) : mapLs C (yss.map D.lst) = some yss := by
  induction yss with
  | nil => rfl
  | cons y yss ih =>
    rw [List.map_cons]
    unfold mapLs
    rw [ih]
    rfl
theorem g_sumL {us : List D} {yss : List (List D)} (h1 : mapLs C us = some yss) (h2 : yss.flatten.length ≤ sizeLine) (h : P (.lst yss.flatten) C) : aSumL [.lst us, .lst []] C P := ⟨us, yss, rfl, h1, h2, h⟩
end
end AL
local macro_rules | `(tactic| walk_at "ne") => `(tactic| first | with_reducible assumption | ((with_reducible refine Ne.symm ?_); (with_reducible assumption)))
local macro_rules | `(tactic| walk_at "look") => `(tactic| first
  | with_reducible assumption
  | with_reducible exact AL.put_same
  | ((with_reducible apply AL.put_other); (walk_at "ne"); (walk_at "look"))
  | ((with_reducible apply AL.del_other); (walk_at "ne"); (walk_at "look")))
local macro_rules | `(tactic| walk_at "mul") => `(tactic| first | exact Or.inr ⟨by omega, by omega⟩ | exact Or.inl ⟨by omega, by omega⟩)
local macro_rules | `(tactic| walk_at "go1") => `(tactic| first
  | with_reducible apply AL.g_seq
  | with_reducible apply AL.g_raiseI
  | with_reducible apply AL.g_kRI
  | with_reducible apply AL.g_asg
  | with_reducible apply AL.g_op
  | with_reducible apply AL.g_un
  | ((with_reducible apply AL.g_var); exact rfl)
  | with_reducible apply AL.g_c
  | ((with_reducible apply AL.g_gname'); (simp only [AL.wipeA, List.foldl_cons, List.foldl_nil, List.set_cons_zero, List.set_cons_succ]; exact rfl))
  | with_reducible apply AL.g_call
  | with_reducible apply AL.g_cons
  | with_reducible apply AL.g_nil
  | with_reducible apply AL.g_addI
  | with_reducible apply AL.g_sub
  | ((with_reducible apply AL.g_mul); (walk_at "mul"))
  | ((with_reducible apply AL.g_mod); (omega))
  | ((with_reducible apply AL.g_div); (exact ⟨by omega, by omega⟩))
  | ((with_reducible apply AL.g_pow); (exact ⟨by decide, by decide, by decide⟩))
  | with_reducible apply AL.g_lt
  | with_reducible apply AL.g_le
  | with_reducible apply AL.g_gt
  | with_reducible apply AL.g_ge
  | with_reducible apply AL.g_eqII
  | with_reducible apply AL.g_neII
  | with_reducible apply AL.g_eqBB
  | with_reducible apply AL.g_neBB
  | with_reducible apply AL.g_eqTT
  | with_reducible apply AL.g_neTT
  | with_reducible apply AL.g_is
  | with_reducible apply AL.g_isnot
  | with_reducible apply AL.g_B
  | with_reducible apply AL.g_kB
  | with_reducible apply AL.g_tru
  | with_reducible apply AL.g_kTruB
  | with_reducible apply AL.g_and
  | with_reducible apply AL.g_or
  | with_reducible apply AL.g_not
  | with_reducible apply AL.g_andV
  | with_reducible apply AL.g_orV
  | with_reducible apply AL.g_notV
  | with_reducible apply AL.g_kNot
  | with_reducible apply AL.g_if
  | with_reducible apply AL.g_ixL0
  | with_reducible apply AL.g_ixL1
  | with_reducible apply AL.g_ixL2
  | with_reducible apply AL.g_ixT0
  | with_reducible apply AL.g_ixT1
  | with_reducible apply AL.g_ixT2
  | with_reducible apply AL.g_ixT3
  | ((with_reducible apply AL.g_ixC); (walk_at "look"))
  | with_reducible apply AL.g_lenL
  | with_reducible apply AL.g_lenT
  | with_reducible apply AL.g_lenR
  | ((with_reducible apply AL.g_lenC); (walk_at "look"))
  | with_reducible apply AL.g_abs
  | with_reducible apply AL.g_max2
  | with_reducible apply AL.g_min2
  | with_reducible apply AL.g_intI
  | with_reducible apply AL.g_intB
  | with_reducible apply AL.g_listL
  | with_reducible apply AL.g_listT
  | with_reducible apply AL.g_tupleL
  | with_reducible apply AL.g_tupleT
  | with_reducible apply AL.g_rev
  | with_reducible apply AL.g_ret
  | with_reducible apply AL.g_drop
  | with_reducible apply AL.g_next
  | with_reducible apply AL.g_retN
  | with_reducible apply AL.g_tup
  | with_reducible apply AL.g_lst
  | with_reducible apply AL.g_lstM
  | with_reducible apply AL.g_isi
  | with_reducible apply AL.g_kIsiI
  | with_reducible apply AL.g_kIsiB
  | with_reducible apply AL.g_kIsiN
  | with_reducible apply AL.g_kIsiS
  | with_reducible apply AL.g_kIsiL
  | with_reducible apply AL.g_kIsiT
  | with_reducible apply AL.g_kIsiK
  | with_reducible apply AL.g_meth
  | with_reducible apply AL.g_methT
  | with_reducible apply AL.g_tyT
  | with_reducible apply AL.g_meth0
  | ((with_reducible apply AL.g_gsetV); exact rfl)
  | ((with_reducible apply AL.g_kSet); (walk_at "look"); exact rfl)
  | ((with_reducible apply AL.g_frzL); exact rfl; (walk_at "look"))
  | ((with_reducible apply AL.g_gtup); exact rfl)
  | with_reducible apply AL.g_gcons
  | with_reducible apply AL.g_gnil
  | with_reducible apply AL.g_yes
  | with_reducible apply AL.g_sl
  | with_reducible apply AL.g_noPart
  | with_reducible apply AL.g_part
  | with_reducible apply AL.g_kPart
  | ((with_reducible apply AL.g_pen0); exact rfl; (walk_at "look"))
  | ((with_reducible apply AL.g_pen1); exact rfl; (walk_at "look"))
  | ((with_reducible apply AL.g_pen2); exact rfl; (walk_at "look"))
  | with_reducible apply AL.g_putK
  | ((with_reducible apply AL.g_kPut1); exact rfl; (walk_at "look"))
  | ((with_reducible apply AL.g_kPut2); exact rfl; (walk_at "look"))
  | with_reducible apply AL.g_par
  | ((with_reducible apply AL.g_kPar); (simp only [List.set_cons_zero, List.set_cons_succ]; exact rfl))
  | with_reducible apply AL.g_neg
  | with_reducible apply AL.g_chain
  | with_reducible apply AL.g_chain3
  | with_reducible apply AL.g_lenSet
  | with_reducible apply AL.g_inTab
  | with_reducible apply AL.g_kInTab
  | with_reducible apply AL.g_kNotInTab
  | with_reducible apply AL.g_ixTab
  | with_reducible apply AL.g_eqNil
  | with_reducible apply AL.g_neNil
  | with_reducible apply AL.g_iteT
  | with_reducible apply AL.g_iteF
  | with_reducible apply AL.g_iteNT
  | with_reducible apply AL.g_iteNF
  | with_reducible apply AL.g_for
  | with_reducible apply AL.g_il
  | with_reducible apply AL.g_it
  | with_reducible apply AL.g_is'
  | with_reducible apply AL.g_ikw
  | with_reducible apply AL.g_iiw
  | with_reducible apply AL.g_dispW
  | with_reducible apply AL.g_dict0W
  | with_reducible apply AL.g_ir1
  | with_reducible apply AL.g_ir3
  | ((with_reducible apply AL.g_kIR3); (omega))
  | with_reducible apply AL.g_ir2
  | with_reducible apply AL.g_ie
  | with_reducible apply AL.g_iz
  | with_reducible apply AL.g_kILl
  | with_reducible apply AL.g_kILr
  | with_reducible apply AL.g_kIT
  | with_reducible apply AL.g_kIS
  | with_reducible apply AL.g_kIE
  | with_reducible apply AL.g_kIZ
  | ((with_reducible apply AL.g_kIR1); (omega); (omega))
  | ((with_reducible apply AL.g_kIR2); (omega))
  | with_reducible apply AL.g_lc
  | with_reducible apply AL.g_lcM
  | ((with_reducible apply AL.g_bodyX); (simp only [List.map_cons, List.map_nil, List.length_cons, List.length_nil, List.cons_append, List.nil_append, List.reduceReplicate, Nat.reduceAdd, Nat.reduceSub]; exact rfl))
  | with_reducible apply AL.g_callX
  | with_reducible apply AL.g_raise
  | with_reducible apply AL.g_try
  | with_reducible apply AL.g_tryA
  | with_reducible apply AL.g_isX
  | with_reducible apply AL.g_get1
  | with_reducible apply AL.g_get2
  | with_reducible apply AL.g_getN
  | with_reducible apply AL.g_inN
  | with_reducible apply AL.g_get1N
  | with_reducible apply AL.g_putN
  | with_reducible apply AL.g_fld
  | with_reducible apply AL.g_fldPut
  | with_reducible apply AL.g_mth
  | with_reducible apply AL.g_mthX
  | with_reducible apply AL.g_make
  | with_reducible apply AL.g_setd
  | with_reducible apply AL.g_dispV
  | with_reducible apply AL.g_kDispVI
  | ((with_reducible apply AL.g_body'); (simp only [List.map_cons, List.map_nil, List.length_cons, List.length_nil, List.cons_append, List.nil_append, List.reduceReplicate, Nat.reduceAdd, Nat.reduceSub]; exact rfl))
  | ((with_reducible apply AL.g_sz); (simp only [List.length_cons, List.length_nil, PySem.sizeLine]; try omega))
  | ((with_reducible apply AL.g_ty); first | exact rfl | exact AL.isTy_ce (by walk_at "look") rfl))
local macro_rules | `(tactic| walk_at "go") => `(tactic| repeat walk_at "go1")
local macro_rules | `(tactic| walk_at "bo") => `(tactic| repeat (first | walk_at "go1" | with_reducible apply AL.g_kAndF | with_reducible apply AL.g_kAndT | with_reducible apply AL.g_kOrF | with_reducible apply AL.g_kOrT))
namespace A_k33
open PySem AL
def a_is_whole : AS' :=
  aRet (aAndV (aIsi "int" (aVar 0)) (aNotV (aIsi "bool" (aVar 0))))
def s_is_whole : ASp := aBody 1 a_is_whole
def a_led : AS' :=
  aSeq (aIfS (aB (aOp aIsN (aVar 1) (aC .non)))
  (aRet (aC .non))
  (aNext))
  (aRet (aOp aIx (aOp aIx (aOp aIx (aVar 0) (aC (.int 1))) (aVar 1)) (aVar 2)))
def s_led : ASp := aBody 3 a_led
def a_shut_in : AS' :=
  aSeq (aAsg (aCall (aDictP true) (aCons (aLc (aIL (aOp aIx (aVar 1) (aC (.int 0)))) (aGName 3) (aYes) (aTup (aCons (aVar 3) (aCons (aC (.bl true)) (aNil)))) [3]) (aNil))) (aGName 4))
  (aSeq (aFor (aIR1 (aCons (aOp aAdd (aVar 2) (aC (.int 1))) (aNil))) (aGName 5)
  (aSeq (aIfS (aB (aOp aLt (aOp aAdd (aVar 5) (aC (.int 1))) (aCall aLen (aCons (aVar 1) (aNil)))))
  (aFor (aIL (aOp aIx (aVar 1) (aOp aAdd (aVar 5) (aC (.int 1))))) (aGName 3)
  (aPutK (aVar 4) (aVar 3) (aC (.bl true))))
  (aNext))
  (aFor (aIL (aOp aIx (aVar 1) (aVar 5))) (aGName 3)
  (aIfS (aOr (aTru (aOp aIx (aOp aIx (aVar 0) (aC (.int 0))) (aVar 3))) (aNot (aTru (aCall aAll (aCons (aLc (aIL (aOp aIx (aOp aIx (aVar 0) (aC (.int 1))) (aVar 3))) (aGName 6) (aYes) (aOrV (aOp aIsN (aVar 6) (aC .non)) (aInK false (aVar 6) (aVar 4))) [6]) (aNil))))))
  (aRet (aC (.bl false)))
  (aNext)))))
  (aRet (aC (.bl true))))
def s_shut_in : ASp := aBody 7 a_shut_in
def a_law_pen : AS' :=
  aRet (aDisp [(.inr "script", aVar 0), (.inr "at", aVar 1), (.inr "left", aC (.int 0))])
def s_law_pen : ASp := aBody 2 a_law_pen
def a_law_mixed : AS' :=
  aSeq (aAsg (aOp aMod (aOp aMul (aOp aAdd (aOp aAdd (aOp aMod (aVar 0) (aC (.int 2147483629))) (aOp aMul (aC (.int 40503)) (aVar 1))) (aC (.int 24691))) (aC (.int 48271))) (aC (.int 2147483647))) (aGName 2))
  (aSeq (aAsg (aOp aMod (aOp aAdd (aOp aAdd (aOp aMul (aVar 2) (aVar 2)) (aOp aMul (aC (.int 69621)) (aVar 2))) (aVar 1)) (aC (.int 2147483629))) (aGName 3))
  (aRet (aOp aDiv (aOp aMod (aOp aAdd (aOp aAdd (aOp aMul (aVar 3) (aVar 3)) (aOp aMul (aC (.int 16807)) (aVar 3))) (aOp aMul (aC (.int 31)) (aVar 1))) (aC (.int 1073741789))) (aC (.int 64)))))
def s_law_mixed : ASp := aBody 4 a_law_mixed
def a_law_table : AS' :=
  aSeq (aAsg (aLstM (aCons (aLc (aIL (aOp aIx (aVar 0) (aC (.int 0)))) (aGName 4) (aYes) (aCall aInt (aCons (aVar 4) (aNil))) [4]) (aNil))) (aGName 2))
  (aSeq (aWhile (aB (aOp aLe (aCall aLen (aCons (aVar 2) (aNil))) (aVar 1)))
  (aSeq (aAsg (aOp aIx (aVar 2) (aUn aNeg (aC (.int 1)))) (aGName 3))
  (aDrop (aMeth "list" aAppend (aVar 2) (aCons (aLc (aIL (aOp aIx (aVar 0) (aC (.int 1)))) (aGName 5) (aYes) (aCall aSum (aCons (aLc (aIL (aVar 5)) (aGName 6) (aB (aOp aNotN (aVar 6) (aC .non))) (aOp aIx (aVar 3) (aVar 6)) [6]) (aNil))) [5]) (aNil))))))
  (aFrz 2 (aRet (aVar 2))))
def s_law_table : ASp := aBody 7 a_law_table
def a_law_gone : AS' :=
  aSeq (aFor (aIL (aVar 2)) (aGName 3)
  (aIfS (aB (aOp aNotN (aVar 1) (aC .non)))
  (aAsg (aOp aIx (aOp aIx (aOp aIx (aVar 0) (aC (.int 1))) (aVar 1)) (aVar 3)) (aGName 1))
  (aNext)))
  (aRet (aVar 1))
def s_law_gone : ASp := aBody 4 a_law_gone
def a_law_due : AS' :=
  aSeq (aAsg (aDisp [(.inl 0, aLst (aNil))]) (aGName 1))
  (aSeq (aAsg (aLstM (aCons (aC (.int 0)) (aNil))) (aGName 2))
  (aSeq (aAsg (aC (.int 0)) (aGName 3))
  (aSeq (aWhile (aB (aOp aLt (aVar 3) (aCall aLen (aCons (aVar 2) (aNil)))))
  (aSeq (aAsg (aOp aIx (aVar 2) (aVar 3)) (aGName 4))
  (aSeq (aFor (aIE (aCons (aOp aIx (aOp aIx (aVar 0) (aC (.int 1))) (aVar 4)) (aNil))) (aGTup 2 (aGCons (aGName 5) (aGCons (aGName 6) (aGNil))))
  (aIfS (aAnd (aB (aOp aNotN (aVar 6) (aC .non))) (aB (aInK true (aVar 6) (aVar 1))))
  (aSeq (aPutK (aVar 1) (aVar 6) (aOp aAdd (aGetK (aVar 1) (aVar 4)) (aLst (aCons (aVar 5) (aNil)))))
  (aDrop (aMeth "list" aAppend (aVar 2) (aCons (aVar 6) (aNil)))))
  (aNext)))
  (aAsg (aOp aAdd (aVar 3) (aC (.int 1))) (aGName 3)))))
  (aFrz 1 (aFrz 2 (aSeq (aAsg (aLc (aIL (aVar 2)) (aGName 11) (aTru (aOp aIx (aOp aIx (aVar 0) (aC (.int 0))) (aVar 11))) (aVar 11) [11]) (aGName 7))
  (aSeq (aAsg (aCall aMaxL (aCons (aLc (aIL (aVar 2)) (aGName 11) (aYes) (aCall aLen (aCons (aGetK (aVar 1) (aVar 11)) (aNil))) [11]) (aNil))) (aGName 8))
  (aSeq (aIfS (aB (aOp aNe (aVar 7) (aLst (aNil))))
  (aAsg (aCall aLen (aCons (aGetK (aVar 1) (aOp aIx (aVar 7) (aC (.int 0)))) (aNil))) (aGName 8))
  (aNext))
  (aSeq (aAsg (aLstM (aNil)) (aGName 9))
  (aSeq (aFor (aIR1 (aCons (aOp aAdd (aVar 8) (aC (.int 1))) (aNil))) (aGName 10)
  (aDrop (aMeth "list" aAppend (aVar 9) (aCons (aCall (aSortL false) (aCons (aLc (aIL (aVar 2)) (aGName 11) (aB (aOp aEq (aCall aLen (aCons (aGetK (aVar 1) (aVar 11)) (aNil))) (aVar 10))) (aVar 11) [11]) (aNil))) (aNil)))))
  (aFrz 9 (aSeq (aIfS (aB (aOp aEq (aVar 7) (aLst (aNil))))
  (aRet (aTup (aCons (aC (.str "none")) (aCons (aVar 9) (aNil)))))
  (aNext))
  (aRet (aTup (aCons (aC (.str "row")) (aCons (aGetK (aVar 1) (aOp aIx (aVar 7) (aC (.int 0)))) (aCons (aVar 9) (aNil))))))))))))))))))
def s_law_due : ASp := aBody 12 a_law_due
def a_law_stands : AS' :=
  aSeq (aIfS (aNot (aTru (aIsi "list" (aVar 1))))
  (aRet (aC (.bl false)))
  (aNext))
  (aSeq (aFor (aIL (aVar 1)) (aGName 2)
  (aIfS (aOr (aNot (aTru (aIsi "int" (aVar 2)))) (aOr (aTru (aIsi "bool" (aVar 2))) (aNot (aB (aChain aLe aLt (aC (.int 0)) (aVar 2) (aCall aLen (aCons (aOp aIx (aVar 0) (aC (.int 0))) (aNil))))))))
  (aRet (aC (.bl false)))
  (aNext)))
  (aRet (aC (.bl true))))
def s_law_stands : ASp := aBody 3 a_law_stands
def a_law_leads : AS' :=
  aSeq (aIfS (aTru (aOp aIx (aOp aIx (aVar 0) (aC (.int 0))) (aVar 1)))
  (aRet (aC (.bl false)))
  (aNext))
  (aRet (aCall aAll (aCons (aLc (aIL (aOp aIx (aOp aIx (aVar 0) (aC (.int 1))) (aVar 1))) (aGName 3) (aYes) (aOrV (aOp aIsN (aVar 3) (aC .non)) (aOp aInL (aVar 3) (aVar 2))) [3]) (aNil))))
def s_law_leads : ASp := aBody 4 a_law_leads
def a_law_row_to : AS' :=
  aSeq (aAsg (aLstM (aCons (aTup (aCons (aVar 1) (aCons (aLst (aNil)) (aNil)))) (aNil))) (aGName 3))
  (aSeq (aAsg (aDispV (aVar 1) (aC (.bl true))) (aGName 4))
  (aSeq (aAsg (aC (.int 0)) (aGName 5))
  (aSeq (aWhile (aB (aOp aLt (aVar 5) (aCall aLen (aCons (aVar 3) (aNil)))))
  (aSeq (aAsg (aOp aIx (aVar 3) (aVar 5)) (aGTup 2 (aGCons (aGName 6) (aGCons (aGName 7) (aGNil)))))
  (aSeq (aIfS (aB (aOp aInL (aVar 6) (aVar 2)))
  (aRet (aVar 7))
  (aNext))
  (aSeq (aFor (aIE (aCons (aOp aIx (aOp aIx (aVar 0) (aC (.int 1))) (aVar 6)) (aNil))) (aGTup 2 (aGCons (aGName 8) (aGCons (aGName 9) (aGNil))))
  (aIfS (aAnd (aB (aOp aNotN (aVar 9) (aC .non))) (aB (aInK true (aVar 9) (aVar 4))))
  (aSeq (aPutK (aVar 4) (aVar 9) (aC (.bl true)))
  (aDrop (aMeth "list" aAppend (aVar 3) (aCons (aTup (aCons (aVar 9) (aCons (aOp aAdd (aVar 7) (aLst (aCons (aVar 8) (aNil)))) (aNil)))) (aNil)))))
  (aNext)))
  (aAsg (aOp aAdd (aVar 5) (aC (.int 1))) (aGName 5))))))
  (aRet (aC .non)))))
def s_law_row_to : ASp := aBody 10 a_law_row_to
def a_law_true : AS' :=
  aSeq (aIfS (aB (aOp aEq (aOp aIx (aVar 1) (aC (.int 0))) (aC (.str "none"))))
  (aRet (aCall aAll (aCons (aLc (aIL (aVar 0)) (aGName 2) (aYes) (aOp aEq (aOp aIx (aVar 2) (aC (.int 0))) (aC (.int 0))) [2]) (aNil))))
  (aNext))
  (aRet (aCall aAll (aCons (aLc (aIL (aSl aCut (aVar 0) aNoPart (aPart (aCall aLen (aCons (aOp aIx (aVar 1) (aC (.int 1))) (aNil)))))) (aGName 2) (aYes) (aOp aEq (aOp aIx (aVar 2) (aC (.int 0))) (aC (.int 0))) [2]) (aNil))))
def s_law_true : ASp := aBody 3 a_law_true
def a_gone : AS' :=
  aSeq (aAsg (aVar 1) (aGName 3))
  (aSeq (aFor (aIL (aVar 2)) (aGName 4)
  (aAsg (aCall s_led (aCons (aVar 0) (aCons (aVar 3) (aCons (aVar 4) (aNil))))) (aGName 3)))
  (aRet (aVar 3)))
def s_gone : ASp := aBody 5 a_gone
def a_is_row : AS' :=
  aSeq (aAsg (aCall aLen (aCons (aOp aIx (aOp aIx (aVar 0) (aC (.int 1))) (aC (.int 0))) (aNil))) (aGName 2))
  (aRet (aAndV (aIsi "list" (aVar 1)) (aCall aAll (aCons (aLc (aIL (aVar 1)) (aGName 3) (aYes) (aAndV (aCall s_is_whole (aCons (aVar 3) (aNil))) (aChain aLe aLt (aC (.int 0)) (aVar 3) (aVar 2))) [3]) (aNil)))))
def s_is_row : ASp := aBody 4 a_is_row
def a_are_layers : AS' :=
  aSeq (aIfS (aOr (aNot (aTru (aIsi "list" (aVar 1)))) (aB (aOp aEq (aCall aLen (aCons (aVar 1) (aNil))) (aC (.int 0)))))
  (aRet (aC (.bl false)))
  (aNext))
  (aSeq (aFor (aIL (aVar 1)) (aGName 2)
  (aIfS (aOr (aNot (aTru (aIsi "list" (aVar 2)))) (aNot (aTru (aCall aAll (aCons (aLc (aIL (aVar 2)) (aGName 3) (aYes) (aAndV (aCall s_is_whole (aCons (aVar 3) (aNil))) (aChain aLe aLt (aC (.int 0)) (aVar 3) (aCall aLen (aCons (aOp aIx (aVar 0) (aC (.int 0))) (aNil))))) [3]) (aNil))))))
  (aRet (aC (.bl false)))
  (aNext)))
  (aRet (aOp aInL (aC (.int 0)) (aOp aIx (aVar 1) (aC (.int 0))))))
def s_are_layers : ASp := aBody 4 a_are_layers
def a_law_take : AS' :=
  aSeq (aAsg (aGetK (aVar 0) (aC (.str "at"))) (aGName 2))
  (aSeq (aAsg (aGetK (aVar 0) (aC (.str "script"))) (aGName 3))
  (aSeq (aIfS (aB (aOp aEq (aGetK (aVar 0) (aC (.str "left"))) (aC (.int 0))))
  (aSeq (aPutK (aVar 0) (aC (.str "at")) (aOp aAdd (aVar 2) (aC (.int 1))))
  (aSeq (aAsg (aC (.int 0)) (aGName 4))
  (aSeq (aIfS (aB (aOp aGt (aCall aLen (aCons (aVar 3) (aNil))) (aC (.int 0))))
  (aAsg (aOp aIx (aVar 3) (aOp aMod (aVar 2) (aCall aLen (aCons (aVar 3) (aNil))))) (aGName 4))
  (aNext))
  (aSeq (aIfS (aOr (aB (aOp aGe (aVar 2) (aCall aLen (aCons (aVar 3) (aNil))))) (aB (aOp aLt (aCall aAbs (aCons (aVar 4) (aNil))) (aOp aPow (aC (.int 10)) (aC (.int 18))))))
  (aRet (aOp aMod (aCall s_law_mixed (aCons (aVar 4) (aCons (aVar 2) (aNil)))) (aVar 1)))
  (aNext))
  (aPutK (aVar 0) (aC (.str "left")) (aCall aAbs (aCons (aVar 4) (aNil))))))))
  (aNext))
  (aSeq (aAsg (aOp aMod (aGetK (aVar 0) (aC (.str "left"))) (aVar 1)) (aGName 5))
  (aSeq (aPutK (aVar 0) (aC (.str "left")) (aOp aDiv (aGetK (aVar 0) (aC (.str "left"))) (aVar 1)))
  (aRet (aVar 5))))))
def s_law_take : ASp := aBody 6 a_law_take
def a_law_lets : AS' :=
  aSeq (aAsg (aCall s_law_gone (aCons (aVar 0) (aCons (aC (.int 0)) (aCons (aVar 1) (aNil))))) (aGName 2))
  (aRet (aAndV (aOp aNotN (aVar 2) (aC .non)) (aOp aIx (aOp aIx (aVar 0) (aC (.int 0))) (aVar 2))))
def s_law_lets : ASp := aBody 3 a_law_lets
def a_law_inside : AS' :=
  aSeq (aFor (aIR1 (aCons (aOp aAdd (aVar 2) (aC (.int 1))) (aNil))) (aGName 3)
  (aSeq (aAsg (aCall aSumL (aCons (aSl aCut (aVar 1) aNoPart (aPart (aOp aAdd (aVar 3) (aC (.int 2))))) (aCons (aLst (aNil)) (aNil)))) (aGName 4))
  (aFor (aIL (aOp aIx (aVar 1) (aVar 3))) (aGName 5)
  (aIfS (aNot (aTru (aCall s_law_leads (aCons (aVar 0) (aCons (aVar 5) (aCons (aVar 4) (aNil)))))))
  (aRet (aC (.bl false)))
  (aNext)))))
  (aRet (aC (.bl true)))
def s_law_inside : ASp := aBody 6 a_law_inside
def a_lets : AS' :=
  aSeq (aAsg (aCall s_gone (aCons (aVar 0) (aCons (aC (.int 0)) (aCons (aVar 1) (aNil))))) (aGName 2))
  (aRet (aAndV (aOp aNotN (aVar 2) (aC .non)) (aOp aIx (aOp aIx (aVar 0) (aC (.int 0))) (aVar 2))))
def s_lets : ASp := aBody 3 a_lets
def a_law_signs : AS' :=
  aRet (aOp aIx (aLst (aCons (aC (.int 2)) (aCons (aC (.int 1)) (aCons (aC (.int 3)) (aCons (aC (.int 2)) (aCons (aC (.int 4)) (aCons (aC (.int 3)) (aCons (aC (.int 2)) (aCons (aOp aAdd (aC (.int 5)) (aCall s_law_take (aCons (aVar 0) (aCons (aC (.int 8)) (aNil))))) (aNil)))))))))) (aCall s_law_take (aCons (aVar 0) (aCons (aC (.int 8)) (aNil)))))
def s_law_signs : ASp := aBody 1 a_law_signs
def a_law_goal : AS' :=
  aSeq (aAsg (aCall s_law_take (aCons (aVar 0) (aCons (aOp aAdd (aVar 2) (aC (.int 1))) (aNil)))) (aGName 4))
  (aSeq (aIfS (aOr (aB (aOp aEq (aVar 4) (aVar 2))) (aAnd (aB (aOp aEq (aVar 3) (aC (.int 1)))) (aB (aOp aLe (aVar 4) (aVar 1)))))
  (aRet (aC .non))
  (aNext))
  (aRet (aVar 4)))
def s_law_goal : ASp := aBody 5 a_law_goal
def a_law_ring : AS' :=
  aSeq (aAsg (aOp aAdd (aC (.int 2)) (aCall s_law_take (aCons (aVar 0) (aCons (aC (.int 7)) (aNil))))) (aGName 2))
  (aSeq (aAsg (aLstM (aNil)) (aGName 3))
  (aSeq (aFor (aIR1 (aCons (aVar 2) (aNil))) (aGName 4)
  (aSeq (aAsg (aOp (aRepL true) (aLst (aCons (aC .non) (aNil))) (aVar 1)) (aGName 5))
  (aSeq (aAsg (aOp aMod (aOp aAdd (aVar 4) (aC (.int 1))) (aOp aSub (aVar 2) (aC (.int 1)))) (aGSet (aVar 5) (aCall s_law_take (aCons (aVar 0) (aCons (aVar 1) (aNil))))))
  (aDrop (aMeth "list" aAppend (aVar 3) (aCons (aVar 5) (aNil)))))))
  (aSeq (aAsg (aOp aSub (aVar 2) (aC (.int 1))) (aGSet (aOp aIx (aVar 3) (aCall s_law_take (aCons (aVar 0) (aCons (aOp aSub (aVar 2) (aC (.int 1))) (aNil))))) (aCall s_law_take (aCons (aVar 0) (aCons (aVar 1) (aNil))))))
  (aSeq (aAsg (aOp (aRepL false) (aLst (aCons (aC .non) (aNil))) (aVar 1)) (aGSet (aVar 3) (aOp aSub (aVar 2) (aC (.int 1)))))
  (aFrz 3 (aFrzIn 3 (aRet (aTup (aCons (aLc (aIR1 (aCons (aVar 2) (aNil))) (aGName 4) (aYes) (aOp aEq (aVar 4) (aOp aSub (aVar 2) (aC (.int 1)))) [4]) (aCons (aVar 3) (aNil)))))))))))
def s_law_ring : ASp := aBody 6 a_law_ring
def a_law_holds : AS' :=
  aSeq (aIfS (aOr (aNot (aTru (aIsi "tuple" (aVar 1)))) (aOr (aB (aOp aNinL (aCall aLen (aCons (aVar 1) (aNil))) (aTup (aCons (aC (.int 2)) (aCons (aC (.int 3)) (aNil)))))) (aNot (aTru (aIsi "str" (aOp aIx (aVar 1) (aC (.int 0))))))))
  (aRet (aC (.bl false)))
  (aNext))
  (aSeq (aAsg (aOp aIx (aVar 1) (aUn aNeg (aC (.int 1)))) (aGName 2))
  (aSeq (aIfS (aOr (aNot (aTru (aIsi "list" (aVar 2)))) (aOr (aB (aOp aEq (aCall aLen (aCons (aVar 2) (aNil))) (aC (.int 0)))) (aNot (aTru (aCall aAll (aCons (aLc (aIL (aVar 2)) (aGName 5) (aYes) (aCall s_law_stands (aCons (aVar 0) (aCons (aVar 5) (aNil)))) [5]) (aNil)))))))
  (aRet (aC (.bl false)))
  (aNext))
  (aSeq (aIfS (aB (aOp aNinL (aC (.int 0)) (aOp aIx (aVar 2) (aC (.int 0)))))
  (aRet (aC (.bl false)))
  (aNext))
  (aSeq (aIfS (aB (aOp aEq (aCall aLen (aCons (aVar 1) (aNil))) (aC (.int 2))))
  (aRet (aAndV (aOp aEq (aOp aIx (aVar 1) (aC (.int 0))) (aC (.str "none"))) (aCall s_law_inside (aCons (aVar 0) (aCons (aVar 2) (aCons (aOp aSub (aCall aLen (aCons (aVar 2) (aNil))) (aC (.int 1))) (aNil)))))))
  (aNext))
  (aSeq (aAsg (aOp aIx (aVar 1) (aC (.int 1))) (aGName 3))
  (aSeq (aIfS (aOr (aB (aOp aNe (aOp aIx (aVar 1) (aC (.int 0))) (aC (.str "row")))) (aOr (aNot (aTru (aIsi "list" (aVar 3)))) (aB (aOp aNe (aCall aLen (aCons (aVar 3) (aNil))) (aOp aSub (aCall aLen (aCons (aVar 2) (aNil))) (aC (.int 1)))))))
  (aRet (aC (.bl false)))
  (aNext))
  (aSeq (aFor (aIL (aVar 3)) (aGName 4)
  (aIfS (aOr (aNot (aTru (aIsi "int" (aVar 4)))) (aOr (aTru (aIsi "bool" (aVar 4))) (aNot (aB (aChain aLe aLt (aC (.int 0)) (aVar 4) (aCall aLen (aCons (aOp aIx (aOp aIx (aVar 0) (aC (.int 1))) (aC (.int 0))) (aNil))))))))
  (aRet (aC (.bl false)))
  (aNext)))
  (aRet (aAndV (aCall s_law_lets (aCons (aVar 0) (aCons (aVar 3) (aNil)))) (aCall s_law_inside (aCons (aVar 0) (aCons (aVar 2) (aCons (aOp aSub (aCall aLen (aCons (aVar 2) (aNil))) (aC (.int 2))) (aNil))))))))))))))
def s_law_holds : ASp := aBody 6 a_law_holds
def a_law_mingled : AS' :=
  aSeq (aAsg (aLstM (aNil)) (aGName 2))
  (aSeq (aFor (aIE (aCons (aSl aCut (aVar 1) aNoPart (aPart (aUn aNeg (aC (.int 1))))) (aNil))) (aGTup 2 (aGCons (aGName 3) (aGCons (aGName 4) (aGNil))))
  (aSeq (aAsg (aOp aAdd (aUn aRev (aVar 4)) (aSl aCut (aVar 4) aNoPart (aPart (aC (.int 1))))) (aGName 5))
  (aSeq (aIfS (aAnd (aB (aOp aGt (aVar 3) (aC (.int 0)))) (aB (aOp aEq (aCall s_law_take (aCons (aVar 0) (aCons (aC (.int 2)) (aNil)))) (aC (.int 0)))))
  (aAsg (aOp aAdd (aVar 5) (aOp aIx (aVar 1) (aCall s_law_take (aCons (aVar 0) (aCons (aVar 3) (aNil)))))) (aGName 5))
  (aNext))
  (aDrop (aMeth "list" aAppend (aVar 2) (aCons (aVar 5) (aNil)))))))
  (aFrz 2 (aRet (aOp aAdd (aVar 2) (aLst (aCons (aOp aAdd (aOp aIx (aVar 1) (aUn aNeg (aC (.int 1)))) (aSl aCut (aOp aIx (aVar 1) (aUn aNeg (aC (.int 1)))) aNoPart (aPart (aC (.int 1))))) (aNil)))))))
def s_law_mingled : ASp := aBody 6 a_law_mingled
def a_law_lists : AS' :=
  aSeq (aAsg (aCall s_law_take (aCons (aVar 0) (aCons (aCall aMax2 (aCons (aC (.int 1)) (aCons (aCall aLen (aCons (aVar 2) (aNil))) (aNil)))) (aNil)))) (aGName 3))
  (aSeq (aAsg (aCall s_law_take (aCons (aVar 0) (aCons (aCall aLen (aCons (aOp aIx (aVar 1) (aC (.int 0))) (aNil))) (aNil)))) (aGName 4))
  (aSeq (aAsg (aLst (aCons (aC .non) (aCons (aUn aNeg (aC (.int 1))) (aCons (aC (.int 0)) (aCons (aC (.bl true)) (aCons (aC (.bl false)) (aCons (aC (.str "0")) (aCons (aOp aPow (aC (.int 10)) (aC (.int 60))) (aCons (aCall aLen (aCons (aOp aIx (aVar 1) (aC (.int 0))) (aNil))) (aCons (aCall aLen (aCons (aOp aIx (aOp aIx (aVar 1) (aC (.int 1))) (aC (.int 0))) (aNil))) (aCons (aVar 4) (aCons (aLst (aCons (aC (.int 0)) (aNil))) (aNil))))))))))))) (aGName 5))
  (aSeq (aAsg (aLc (aIL (aVar 5)) (aGName 7) (aYes) (aOp aAdd (aOp aAdd (aSl aCut (aVar 2) aNoPart (aPart (aVar 3))) (aLst (aCons (aVar 7) (aNil)))) (aSl aCut (aVar 2) (aPart (aOp aAdd (aVar 3) (aC (.int 1)))) aNoPart)) [7]) (aGName 6))
  (aSeq (aAsg (aOp aAdd (aVar 6) (aLst (aCons (aOp aAdd (aSl aCut (aVar 2) aNoPart (aPart (aVar 3))) (aSl aCut (aVar 2) (aPart (aOp aAdd (aVar 3) (aC (.int 1)))) aNoPart)) (aCons (aOp aAdd (aVar 2) (aLst (aCons (aVar 4) (aNil)))) (aCons (aOp aAdd (aVar 2) (aLst (aCons (aC (.int 0)) (aNil)))) (aCons (aOp aAdd (aVar 2) (aLst (aCons (aC (.bl true)) (aNil)))) (aCons (aUn aRev (aVar 2)) (aCons (aCall aTupleOf (aCons (aVar 2) (aNil))) (aCons (aLst (aNil)) (aNil)))))))))) (aGName 6))
  (aRet (aOp aAdd (aVar 6) (aLst (aCons (aC .non) (aCons (aC (.int 0)) (aCons (aC (.str "0")) (aCons (aDispF [(.inl 0, aC (.int 0))]) (aCons (aLst (aCons (aVar 2) (aNil))) (aNil)))))))))))))
def s_law_lists : ASp := aBody 8 a_law_lists
def a_holds_shortest : AS' :=
  aSeq (aIfS (aOr (aNot (aTru (aIsi "tuple" (aVar 1)))) (aOr (aB (aOp aLt (aCall aLen (aCons (aVar 1) (aNil))) (aC (.int 2)))) (aNot (aTru (aIsi "str" (aOp aIx (aVar 1) (aC (.int 0))))))))
  (aRet (aC (.bl false)))
  (aNext))
  (aSeq (aIfS (aAnd (aB (aOp aEq (aOp aIx (aVar 1) (aC (.int 0))) (aC (.str "none")))) (aB (aOp aEq (aCall aLen (aCons (aVar 1) (aNil))) (aC (.int 2)))))
  (aRet (aAndV (aCall s_are_layers (aCons (aVar 0) (aCons (aOp aIx (aVar 1) (aC (.int 1))) (aNil)))) (aCall s_shut_in (aCons (aVar 0) (aCons (aOp aIx (aVar 1) (aC (.int 1))) (aCons (aOp aSub (aCall aLen (aCons (aOp aIx (aVar 1) (aC (.int 1))) (aNil))) (aC (.int 1))) (aNil)))))))
  (aNext))
  (aSeq (aIfS (aOr (aB (aOp aNe (aOp aIx (aVar 1) (aC (.int 0))) (aC (.str "row")))) (aOr (aB (aOp aNe (aCall aLen (aCons (aVar 1) (aNil))) (aC (.int 3)))) (aNot (aTru (aCall s_are_layers (aCons (aVar 0) (aCons (aOp aIx (aVar 1) (aC (.int 2))) (aNil))))))))
  (aRet (aC (.bl false)))
  (aNext))
  (aSeq (aIfS (aOr (aNot (aTru (aCall s_is_row (aCons (aVar 0) (aCons (aOp aIx (aVar 1) (aC (.int 1))) (aNil)))))) (aOr (aB (aOp aNe (aOp aAdd (aCall aLen (aCons (aOp aIx (aVar 1) (aC (.int 1))) (aNil))) (aC (.int 1))) (aCall aLen (aCons (aOp aIx (aVar 1) (aC (.int 2))) (aNil))))) (aNot (aTru (aCall s_lets (aCons (aVar 0) (aCons (aOp aIx (aVar 1) (aC (.int 1))) (aNil))))))))
  (aRet (aC (.bl false)))
  (aNext))
  (aRet (aCall s_shut_in (aCons (aVar 0) (aCons (aOp aIx (aVar 1) (aC (.int 2))) (aCons (aOp aSub (aCall aLen (aCons (aOp aIx (aVar 1) (aC (.int 2))) (aNil))) (aC (.int 2))) (aNil)))))))))
def s_holds_shortest : ASp := aBody 2 a_holds_shortest
def a_law_machine : AS' :=
  aSeq (aAsg (aOp aAdd (aC (.int 1)) (aCall s_law_take (aCons (aVar 0) (aCons (aVar 2) (aNil))))) (aGName 3))
  (aSeq (aAsg (aCall s_law_take (aCons (aVar 0) (aCons (aC (.int 4)) (aNil)))) (aGName 4))
  (aSeq (aAsg (aOp aAdd (aC (.int 1)) (aCall s_law_take (aCons (aVar 0) (aCons (aVar 3) (aNil))))) (aGName 5))
  (aSeq (aAsg (aLstM (aNil)) (aGName 6))
  (aSeq (aAsg (aLstM (aNil)) (aGName 7))
  (aSeq (aFor (aIR1 (aCons (aVar 3) (aNil))) (aGName 8)
  (aSeq (aDrop (aMeth "list" aAppend (aVar 6) (aCons (aOp aEq (aCall s_law_take (aCons (aVar 0) (aCons (aC (.int 3)) (aNil)))) (aC (.int 0))) (aNil))))
  (aSeq (aAsg (aLc (aIR1 (aCons (aVar 1) (aNil))) (aGName 10) (aYes) (aCall s_law_goal (aCons (aVar 0) (aCons (aVar 8) (aCons (aVar 3) (aCons (aVar 4) (aNil)))))) [10]) (aGName 9))
  (aSeq (aIfS (aAnd (aB (aOp aEq (aVar 4) (aC (.int 2)))) (aB (aOp aLt (aVar 8) (aVar 5))))
  (aSeq (aAsg (aC (.bl false)) (aGSet (aVar 6) (aVar 8)))
  (aAsg (aLc (aIL (aVar 9)) (aGName 11) (aYes) (aOp aIx (aLst (aCons (aVar 11) (aCons (aC .non) (aNil)))) (aCall aInt (aCons (aOrV (aOp aIsN (aVar 11) (aC .non)) (aOp aGe (aVar 11) (aVar 5))) (aNil)))) [11]) (aGName 9)))
  (aNext))
  (aDrop (aMeth "list" aAppend (aVar 7) (aCons (aVar 9) (aNil))))))))
  (aFrz 6 (aFrz 7 (aRet (aTup (aCons (aVar 6) (aCons (aVar 7) (aNil))))))))))))
def s_law_machine : ASp := aBody 12 a_law_machine
def a_law_written : AS' :=
  aSeq (aAsg (aCall s_law_due (aCons (aVar 1) (aNil))) (aGName 2))
  (aSeq (aAsg (aOp aIx (aVar 2) (aUn aNeg (aC (.int 1)))) (aGName 3))
  (aSeq (aAsg (aLstM (aCons (aVar 2) (aCons (aOp aAdd (aSl aCut (aVar 2) aNoPart (aPart (aUn aNeg (aC (.int 1))))) (aTup (aCons (aCall s_law_mingled (aCons (aVar 0) (aCons (aVar 3) (aNil)))) (aNil)))) (aNil)))) (aGName 4))
  (aSeq (aIfS (aB (aOp aEq (aCall aLen (aCons (aVar 2) (aNil))) (aC (.int 2))))
  (aSeq (aDrop (aMeth "list" aAppend (aVar 4) (aCons (aTup (aCons (aC (.str "none")) (aCons (aLst (aCons (aCall aSumL (aCons (aVar 3) (aCons (aLst (aNil)) (aNil)))) (aNil))) (aNil)))) (aNil))))
  (aSeq (aDrop (aMeth "list" aAppend (aVar 4) (aCons (aTup (aCons (aC (.str "none")) (aCons (aLst (aCons (aCall aSumL (aCons (aVar 3) (aCons (aLst (aNil)) (aNil)))) (aCons (aLst (aNil)) (aCons (aOp aIx (aVar 3) (aUn aNeg (aC (.int 1)))) (aNil))))) (aNil)))) (aNil))))
  (aRet (aVar 4))))
  (aNext))
  (aFrz 4 (aSeq (aAsg (aLc (aIR1 (aCons (aCall aLen (aCons (aOp aIx (aVar 1) (aC (.int 0))) (aNil))) (aNil))) (aGName 7) (aTru (aOp aIx (aOp aIx (aVar 1) (aC (.int 0))) (aVar 7))) (aVar 7) [7]) (aGName 5))
  (aSeq (aAsg (aLc (aIR1 (aCons (aCall aLen (aCons (aOp aIx (aVar 1) (aC (.int 0))) (aNil))) (aNil))) (aGName 7) (aB (aOp aIsN (aCall s_law_row_to (aCons (aVar 1) (aCons (aVar 7) (aCons (aVar 5) (aNil))))) (aC .non))) (aVar 7) [7]) (aGName 6))
  (aRet (aOp aAdd (aVar 4) (aLst (aCons (aOp aAdd (aSl aCut (aVar 2) aNoPart (aPart (aUn aNeg (aC (.int 1))))) (aTup (aCons (aOp aAdd (aLst (aCons (aOp aAdd (aOp aIx (aVar 3) (aC (.int 0))) (aVar 6)) (aNil))) (aSl aCut (aVar 3) (aPart (aC (.int 1))) aNoPart)) (aNil)))) (aNil)))))))))))
def s_law_written : ASp := aBody 8 a_law_written
def a_law_bent : AS' :=
  aSeq (aAsg (aOp aIx (aVar 2) (aUn aNeg (aC (.int 1)))) (aGName 3))
  (aSeq (aAsg (aCall s_law_take (aCons (aVar 0) (aCons (aCall aLen (aCons (aVar 3) (aNil))) (aNil)))) (aGName 4))
  (aSeq (aAsg (aCall s_law_take (aCons (aVar 0) (aCons (aCall aLen (aCons (aVar 3) (aNil))) (aNil)))) (aGName 5))
  (aSeq (aAsg (aCall aListM (aCons (aVar 3) (aNil))) (aGName 6))
  (aSeq (aAsg (aTup (aCons (aOp aIx (aVar 3) (aVar 5)) (aCons (aOp aIx (aVar 3) (aVar 4)) (aNil)))) (aGTup 2 (aGCons (aGSet (aVar 6) (aVar 4)) (aGCons (aGSet (aVar 6) (aVar 5)) aGNil))))
  (aFrz 6 (aSeq (aAsg (aLc (aIL (aCall s_law_lists (aCons (aVar 0) (aCons (aVar 1) (aCons (aOp aIx (aVar 3) (aVar 4)) (aNil)))))) (aGName 10) (aYes) (aOp aAdd (aOp aAdd (aSl aCut (aVar 3) aNoPart (aPart (aVar 4))) (aLst (aCons (aVar 10) (aNil)))) (aSl aCut (aVar 3) (aPart (aOp aAdd (aVar 4) (aC (.int 1)))) aNoPart)) [10]) (aGName 7))
  (aSeq (aAsg (aOp aAdd (aVar 7) (aLst (aCons (aOp aAdd (aSl aCut (aVar 3) aNoPart (aPart (aVar 4))) (aSl aCut (aVar 3) (aPart (aOp aAdd (aVar 4) (aC (.int 1)))) aNoPart)) (aCons (aOp aAdd (aOp aAdd (aSl aCut (aVar 3) aNoPart (aPart (aVar 4))) (aLst (aCons (aOp aIx (aVar 3) (aVar 4)) (aNil)))) (aSl aCut (aVar 3) (aPart (aVar 4)) aNoPart)) (aCons (aVar 6) (aCons (aUn aRev (aVar 3)) (aNil))))))) (aGName 7))
  (aSeq (aAsg (aOp aAdd (aVar 7) (aLst (aCons (aOp aAdd (aVar 3) (aLst (aCons (aLst (aNil)) (aNil)))) (aCons (aSl aCut (aVar 3) aNoPart (aPart (aUn aNeg (aC (.int 1))))) (aCons (aSl aCut (aVar 3) (aPart (aC (.int 1))) aNoPart) (aCons (aCall aTupleOf (aCons (aVar 3) (aNil))) (aCons (aLst (aNil)) (aCons (aC .non) (aCons (aC (.int 0)) (aCons (aCall aSumL (aCons (aVar 3) (aCons (aLst (aNil)) (aNil)))) (aNil))))))))))) (aGName 7))
  (aSeq (aAsg (aLcM (aIL (aVar 7)) (aGName 11) (aYes) (aOp aAdd (aSl aCut (aVar 2) aNoPart (aPart (aUn aNeg (aC (.int 1))))) (aTup (aCons (aVar 11) (aNil)))) [11]) (aGName 8))
  (aSeq (aIfS (aB (aOp aEq (aCall aLen (aCons (aVar 2) (aNil))) (aC (.int 3))))
  (aSeq (aAsg (aOp aAddM (aVar 8) (aLc (aIL (aCall s_law_lists (aCons (aVar 0) (aCons (aVar 1) (aCons (aOp aIx (aVar 2) (aC (.int 1))) (aNil)))))) (aGName 12) (aYes) (aTup (aCons (aC (.str "row")) (aCons (aVar 12) (aCons (aVar 3) (aNil))))) [12])) (aGName 8))
  (aFrz 8 (aAsg (aOp aAddM (aVar 8) (aLst (aCons (aTup (aCons (aC (.str "row")) (aCons (aOp aAdd (aOp aIx (aVar 2) (aC (.int 1))) (aLst (aCons (aC (.int 0)) (aNil)))) (aCons (aOp aAdd (aVar 3) (aLst (aCons (aLst (aCons (aC (.int 0)) (aNil))) (aNil)))) (aNil))))) (aCons (aTup (aCons (aC (.str "row")) (aCons (aOp aAdd (aOp aIx (aVar 2) (aC (.int 1))) (aLst (aCons (aC (.int 0)) (aNil)))) (aCons (aOp aAdd (aVar 3) (aLst (aCons (aLst (aNil)) (aNil)))) (aNil))))) (aNil))))) (aGName 8))))
  (aNext))
  (aSeq (aFor (aIT (aTup (aCons (aC (.str "none")) (aCons (aC (.str "row")) (aCons (aC (.str "Row")) (aCons (aC (.str "")) (aCons (aC .non) (aCons (aC (.int 0)) (aCons (aC (.bl true)) (aCons (aLst (aCons (aC (.str "row")) (aNil))) (aNil))))))))))) (aGName 9)
  (aDrop (aMeth "list" aAppend (aVar 8) (aCons (aOp aAdd (aTup (aCons (aVar 9) (aNil))) (aSl aCut (aVar 2) (aPart (aC (.int 1))) aNoPart)) (aNil)))))
  (aFrz 8 (aSeq (aAsg (aOp aAddM (aVar 8) (aLst (aCons (aSl aCut (aVar 2) aNoPart (aPart (aUn aNeg (aC (.int 1))))) (aCons (aOp aAdd (aVar 2) (aTup (aCons (aVar 3) (aNil)))) (aCons (aCall aListOf (aCons (aVar 2) (aNil))) (aCons (aTup (aCons (aVar 2) (aNil))) (aCons (aUn aRevT (aVar 2)) (aCons (aTup (aCons (aC (.str "row")) (aCons (aLst (aNil)) (aCons (aVar 3) (aNil))))) (aCons (aTup (aCons (aC (.str "none")) (aNil))) (aNil)))))))))) (aGName 8))
  (aFrz 8 (aRet (aOp aAdd (aVar 8) (aLst (aCons (aC .non) (aCons (aC (.int 0)) (aCons (aC (.bl true)) (aCons (aC (.str "none")) (aCons (aTup (aNil)) (aCons (aLst (aNil)) (aCons (aDict0F) (aCons (aVar 3) (aCons (aTup (aCons (aC (.str "none")) (aCons (aVar 3) (aNil)))) (aCons (aTup (aCons (aC (.str "row")) (aCons (aLst (aNil)) (aCons (aLst (aCons (aLst (aCons (aC (.int 0)) (aNil))) (aNil))) (aNil))))) (aNil))))))))))))))))))))))))))))
def s_law_bent : ASp := aBody 13 a_law_bent
def a_law : AS' :=
  aSeq (aAsg (aCall s_law_pen (aCons (aVar 0) (aCons (aC (.int 0)) (aNil)))) (aGName 1))
  (aSeq (aAsg (aCall s_law_signs (aCons (aVar 1) (aNil))) (aGName 2))
  (aSeq (aAsg (aCall s_law_machine (aCons (aVar 1) (aCons (aVar 2) (aCons (aC (.int 8)) (aNil))))) (aGName 3))
  (aSeq (aIfS (aB (aOp aEq (aCall s_law_take (aCons (aVar 1) (aCons (aC (.int 5)) (aNil)))) (aC (.int 0))))
  (aAsg (aCall s_law_ring (aCons (aVar 1) (aCons (aVar 2) (aNil)))) (aGName 3))
  (aNext))
  (aSeq (aAsg (aCall s_law_table (aCons (aVar 3) (aCons (aOp aAdd (aOp aMul (aC (.int 2)) (aCall aLen (aCons (aOp aIx (aVar 3) (aC (.int 0))) (aNil)))) (aC (.int 2))) (aNil)))) (aGName 4))
  (aSeq (aAsg (aTup (aCons (aCall aListOf (aCons (aOp aIx (aVar 3) (aC (.int 0))) (aNil))) (aCons (aLc (aIL (aOp aIx (aVar 3) (aC (.int 1)))) (aGName 10) (aYes) (aCall aListOf (aCons (aVar 10) (aNil))) [10]) (aNil)))) (aGName 5))
  (aSeq (aAsg (aCall s_law_pen (aCons (aVar 0) (aCons (aC (.int 25)) (aNil)))) (aGName 1))
  (aSeq (aFor (aIL (aCall s_law_written (aCons (aVar 1) (aCons (aVar 3) (aNil))))) (aGName 6)
  (aSeq (aIfS (aB (aOp aNotBl (aCall s_holds_shortest (aCons (aVar 5) (aCons (aVar 6) (aNil)))) (aC (.bl true))))
  (aRet (aC (.bl false)))
  (aNext))
  (aFor (aIL (aCall s_law_bent (aCons (aVar 1) (aCons (aVar 3) (aCons (aVar 6) (aNil)))))) (aGName 7)
  (aSeq (aAsg (aCall aRepr (aCons (aVar 7) (aNil))) (aGName 8))
  (aSeq (aAsg (aCall s_holds_shortest (aCons (aVar 5) (aCons (aVar 7) (aNil)))) (aGName 9))
  (aSeq (aIfS (aOr (aNot (aTru (aIsi "bool" (aVar 9)))) (aB (aOp aNe (aVar 9) (aCall s_law_holds (aCons (aVar 3) (aCons (aVar 7) (aNil)))))))
  (aRet (aC (.bl false)))
  (aNext))
  (aIfS (aOr (aB (aOp aNe (aCall aRepr (aCons (aVar 7) (aNil))) (aVar 8))) (aOr (aB (aOp aNe (aVar 5) (aVar 3))) (aAnd (aTru (aVar 9)) (aNot (aTru (aCall s_law_true (aCons (aVar 4) (aCons (aVar 7) (aNil)))))))))
  (aRet (aC (.bl false)))
  (aNext))))))))
  (aRet (aC (.bl true))))))))))
def s_law : ASp := aBody 11 a_law
end A_k33
namespace A_k33
open PySem L2 AL
def PenC (c : Cell) : Prop := ∃ (ns : List Int) (k l : Int), c = penD (.scr ns) (.int k) (.int l) ∧ 0 ≤ k ∧ 0 ≤ l
def Pen (C : AH) (p : Addr) : Prop := ∃ c, C p = some c ∧ PenC c
theorem pen_put {C : AH} {p : Addr} {c : Cell} (h : PenC c) : Pen (put C p c) p := ⟨c, put_same, h⟩
theorem Pen.other {C : AH} {p q : Addr} {c : Cell} (h : Pen C p) (hn : p ≠ q) : Pen (put C q c) p := by
  obtain ⟨d, h1, h2⟩ := h
  exact ⟨d, put_other hn h1, h2⟩
theorem Pen.otherD {C : AH} {p q : Addr} (h : Pen C p) (hn : p ≠ q) : Pen (del C q) p := by
  obtain ⟨d, h1, h2⟩ := h
  exact ⟨d, del_other hn h1, h2⟩
theorem mixed_ok {x k : Int} {C : AH} {P : D → AH → Prop} (h : ∀ i, P (.int i) C) : s_law_mixed [.int x, .int k] C P := by
  unfold s_law_mixed a_law_mixed
  walk_at "go"
  exact h _
theorem take_ok {p : Addr} {m : Int} {C : AH} {P : D → AH → Prop} (hp : Pen C p) (hm : 0 < m) (hm2 : m < 1073741824)
    (h : ∀ c d, PenC c → 0 ≤ d → d < m → P (.int d) (put C p c)) : s_law_take [.ce p, .int m] C P := by
  obtain ⟨_, hC, ns, k, l, rfl, hk, hl⟩ := hp
  unfold s_law_take a_law_take
  walk_at "go"
  refine g_ifJ (fun st C' => ∃ (k2 l2 : Int) (x4 x5 : Option D), 0 ≤ k2 ∧ 0 ≤ l2 ∧ (∀ z, put C' p z = put C p z) ∧ C' p = some (penD (.scr ns) (.int k2) (.int l2)) ∧ st = [some (.ce p), some (.int m), some (.int k), some (.scr ns), x4, x5]) (fun N hN => ?_) (fun st C' hw => ?_)
  · refine g_ifS ?_
    walk_at "go"
    refine g_ite (fun h0 => ?_) (fun h0 => ?_)
    · walk_at "go"
      refine g_ifJ (fun st C' => ∃ x : Int, st = [some (.ce p), some (.int m), some (.int k), some (.scr ns), some (.int x), none] ∧ C' = put C p (penD (.scr ns) (.int (k + 1)) (.int l))) (fun N hN => ?_) (fun st C' hw => ?_)
      · refine g_ifS ?_
        walk_at "go"
        refine g_ite (fun h1 => ?_) (fun h1 => ?_)
        · have hl : 0 < ns.length := by have := of_decide_eq_true h1; omega
          walk_at "go"
          refine g_ixR (d := .int (ns.getD (k.toNat % ns.length) 0)) ?_ ?_
          · have e : k % (ns.length : Int) = ((k.toNat % ns.length : Nat) : Int) := by
              rw [Int.natCast_emod, Int.toNat_of_nonneg hk]
            rw [e]
            refine atI_nat' ?_
            have hl : k.toNat % ns.length < ns.length := Nat.mod_lt _ hl
            rw [List.getElem?_map, List.getElem?_eq_getElem hl]
            simp [List.getD, List.getElem?_eq_getElem hl]
          walk_at "go"
          exact hN _ _ ⟨_, rfl, rfl⟩
        · walk_at "go"
          exact hN _ _ ⟨_, rfl, rfl⟩
      · obtain ⟨x, rfl, rfl⟩ := hw
        walk_at "go"
        refine g_ifJ (fun st C' => st = [some (.ce p), some (.int m), some (.int k), some (.scr ns), some (.int x), none] ∧ C' = put C p (penD (.scr ns) (.int (k + 1)) (.int l))) (fun N hN => ?_) (fun st C' hw => ?_)
        · refine g_ifS ?_
          have ret : ∀ N2 : ASt → AH → Prop, (aRet (aOp aMod (aCall s_law_mixed (aCons (aVar 4) (aCons (aVar 2) (aNil)))) (aVar 1))) ⟨N2, P, fun _ _ => False, fun _ _ => False⟩ [some (.ce p), some (.int m), some (.int k), some (.scr ns), some (.int x), none] (put C p (penD (.scr ns) (.int (k + 1)) (.int l))) := by
            intro N2
            walk_at "go"
            refine mixed_ok fun i => ?_
            walk_at "go"
            exact h _ _ ⟨ns, k + 1, l, rfl, by omega, hl⟩ (Int.emod_nonneg _ (by omega)) (Int.emod_lt_of_pos _ hm)
          walk_at "go"
          refine g_ite (fun h2 => ?_) (fun h2 => ?_)
          · refine g_iteT ?_
            exact ret _
          · walk_at "go"
            refine g_ite (fun h3 => ?_) (fun h3 => ?_)
            · exact ret _
            · walk_at "go"
              exact hN _ _ ⟨rfl, rfl⟩
        · obtain ⟨rfl, rfl⟩ := hw
          walk_at "go"
          refine hN _ _ ⟨k + 1, (if x < 0 then -x else x), _, _, by omega, by split <;> omega, fun z => by rw [put_put, put_put], ?_, rfl⟩
          rw [put_put, put_same]
    · walk_at "go"
      exact hN _ _ ⟨k, l, _, _, hk, hl, fun z => rfl, hC, rfl⟩
  · obtain ⟨k2, l2, x4, x5, hk2, hl2, hp2, hC2, rfl⟩ := hw
    walk_at "go"
    rw [hp2]
    exact h _ _ ⟨ns, k2, _, rfl, hk2, Int.ediv_nonneg hl2 (by omega)⟩ (Int.emod_nonneg _ (by omega)) (Int.emod_lt_of_pos _ hm)
end A_k33
namespace A_k33
open PySem L2 AL
theorem take_nat {p : Addr} {m : Nat} {C : AH} {P : D → AH → Prop} (hp : Pen C p) (hm : 0 < m) (hm2 : m < 1073741824)
    (k : ∀ c (d : Nat), PenC c → d < m → P (.int d) (put C p c)) : s_law_take [.ce p, .int m] C P := by
  refine take_ok hp (by omega) (by omega) fun c d hc h0 h1 => ?_
  have e : d = ((d.toNat : Nat) : Int) := by omega
  rw [e]
  exact k c d.toNat hc (by omega)
theorem pen_ok {ns : List Int} {j : Nat} {C : AH} {P : D → AH → Prop} (k : ∀ p c, C p = none → PenC c → P (.ce p) (put C p c)) : s_law_pen [.scr ns, .int j] C P := by
  unfold s_law_pen a_law_pen
  walk_at "go"
  refine g_newPen rfl rfl fun p hp => ?_
  exact k p _ hp ⟨ns, _, _, rfl, by omega, by omega⟩
theorem signs_ok {p : Addr} {C : AH} {P : D → AH → Prop} (hp : Pen C p) (k : ∀ c (sg : Nat), PenC c → 0 < sg → sg ≤ 12 → P (.int sg) (put C p c)) : s_law_signs [.ce p] C P := by
  unfold s_law_signs a_law_signs
  walk_at "go"
  refine take_nat (m := 8) hp (by omega) (by omega) fun c d hc hd => ?_
  walk_at "go"
  refine take_nat (m := 8) (pen_put hc) (by omega) (by omega) fun c e hc he => ?_
  rw [put_put]
  have e5 : (5 : Int) + (d : Int) = ((5 + d : Nat) : Int) := by omega
  rw [e5]
  have : e = 0 ∨ e = 1 ∨ e = 2 ∨ e = 3 ∨ e = 4 ∨ e = 5 ∨ e = 6 ∨ e = 7 := by omega
  rcases this with rfl | rfl | rfl | rfl | rfl | rfl | rfl | rfl
  · exact g_ixL (d := .int (2 : Nat)) rfl (k c 2 hc (by omega) (by omega))
  · exact g_ixL (d := .int (1 : Nat)) rfl (k c 1 hc (by omega) (by omega))
  · exact g_ixL (d := .int (3 : Nat)) rfl (k c 3 hc (by omega) (by omega))
  · exact g_ixL (d := .int (2 : Nat)) rfl (k c 2 hc (by omega) (by omega))
  · exact g_ixL (d := .int (4 : Nat)) rfl (k c 4 hc (by omega) (by omega))
  · exact g_ixL (d := .int (3 : Nat)) rfl (k c 3 hc (by omega) (by omega))
  · exact g_ixL (d := .int (2 : Nat)) rfl (k c 2 hc (by omega) (by omega))
  · exact g_ixL (d := .int (5 + d : Nat)) rfl (k c (5 + d) hc (by omega) (by omega))
theorem goal_ok {p : Addr} {stand stands way : Nat} {C : AH} {P : D → AH → Prop} (hp : Pen C p) (hm : stands < 1000)
    (k : ∀ c (o : Option Nat), PenC c → inn stands o → P (oD o) (put C p c)) : s_law_goal [.ce p, .int stand, .int stands, .int way] C P := by
  unfold s_law_goal a_law_goal
  walk_at "go"
  have e1 : (stands : Int) + 1 = ((stands + 1 : Nat) : Int) := by omega
  rw [e1]
  refine take_nat hp (by omega) (by omega) fun c d hc hd => ?_
  have hno : P .non (put C p c) := k c none hc (fun t ht => by cases ht)
  walk_at "go"
  refine g_ifJ (fun st C' => d < stands ∧ st = [some (.ce p), some (.int stand), some (.int stands), some (.int way), some (.int d)] ∧ C' = put C p c) (fun N hN => ?_) (fun st C' hw => ?_)
  · refine g_ifS ?_
    walk_at "go"
    refine g_iteD (fun h => ?_) (fun h => ?_)
    · walk_at "go"
      exact hno
    · walk_at "go"
      refine g_ite (fun h2 => ?_) (fun h2 => ?_)
      · walk_at "go"
        refine g_ite (fun h3 => ?_) (fun h3 => ?_)
        · walk_at "go"
          exact hno
        · walk_at "go"
          exact hN _ _ ⟨by omega, rfl, rfl⟩
      · walk_at "go"
        exact hN _ _ ⟨by omega, rfl, rfl⟩
  · obtain ⟨hd2, rfl, rfl⟩ := hw
    walk_at "go"
    exact k c (some d) hc (fun t ht => by cases ht; exact hd2)
def rowD (r : List (Option Nat)) : D := .lst (r.map oD)
theorem row_in {fence stands : Nat} {C : AH} {r : List (Option Nat)} (hr : ∀ o ∈ r, inn stands o) : ∀ o ∈ r.map (fun o => match o with | some t => if fence ≤ t then none else some t | none => none), inn stands o := by
  intro o ho
  obtain ⟨o', h1, rfl⟩ := List.mem_map.mp ho
  intro t ht
  cases o' with
  | none => cases ht
  | some u =>
    simp only at ht
    split at ht
    · cases ht
    · exact hr _ h1 t ht
theorem machine_ok {p : Addr} {most sg : Nat} {C : AH} {P : D → AH → Prop} (hp : Pen C p) (hm : 0 < most) (hm2 : most ≤ 100) (hs : sg ≤ 12)
    (k : ∀ ends goes C', Mach sg ends goes → ends.length ≤ most → Pen C' p → Oth p C C' → P (machD ends goes) C') : s_law_machine [.ce p, .int sg, .int most] C P := by
  unfold s_law_machine a_law_machine
  walk_at "go"
  refine take_nat hp hm (by omega) fun c d hc hd => ?_
  walk_at "go"
  have e1 : (1 : Int) + (d : Int) = ((d + 1 : Nat) : Int) := by omega
  rw [e1]
  generalize hmany : d + 1 = many
  have hmany2 : 0 < many ∧ many ≤ most := by omega
  refine take_nat (m := 4) (pen_put hc) (by omega) (by omega) fun c way hc hway => ?_
  rw [put_put]
  walk_at "go"
  refine take_nat (pen_put hc) hmany2.1 (by omega) fun c f hc hf => ?_
  rw [put_put]
  walk_at "go"
  have e2 : (1 : Int) + (f : Int) = ((f + 1 : Nat) : Int) := by omega
  rw [e2]
  generalize hfence : f + 1 = fence
  have hP := pen_put (C := C) (p := p) hc
  have hO := (Oth.refl p C).pen (c := c)
  generalize put C p c = C1 at hP hO ⊢
  intro e he
  have hpe : p ≠ e := by obtain ⟨_, h, _⟩ := hP; exact ne_cell h he
  have hP2 := hP.other (c := .lst []) hpe
  have hCe : (put C1 e (.lst [])) e = some (.lst (([] : List Bool).map D.bl)) := put_same
  have he0 : C e = none := hO.none hpe.symm he
  have hO2 := hO.put (c := .lst []) he0
  generalize put C1 e (.lst []) = C2 at hP2 hCe hO2 ⊢
  walk_at "go"
  intro g hg
  have hpg : p ≠ g := by obtain ⟨_, h, _⟩ := hP2; exact ne_cell h hg
  have heg : e ≠ g := ne_cell hCe hg
  have hg0 : C g = none := hO2.none hpg.symm hg
  walk_at "go"
  refine g_kForR0 (fun i st C' => ∃ (ends : List Bool) (rows : List (List (Option Nat))) (x8 x9 : Option D), ends.length = i ∧ rows.length = i ∧ (∀ r ∈ rows, r.length = sg ∧ ∀ o ∈ r, inn many o) ∧ C' e = some (.lst (ends.map D.bl)) ∧ C' g = some (.lst (rows.map rowD)) ∧ Pen C' p ∧ Oth p C C' ∧
      st = [some (.ce p), some (.int sg), some (.int most), some (.int many), some (.int way), some (.int fence), some (.ce e), some (.ce g), x8, x9, none, none]) ?_ (fun i st C' hi hw => ?_) (fun st C' hw => ?_)
  · exact ⟨[], [], none, none, rfl, rfl, by simp, put_other heg hCe, put_same, hP2.other hpg, hO2.put hg0, rfl⟩
  · obtain ⟨ends, rows, x8, x9, hl1, hl2, hr, hCe, hCg, hP, hO, rfl⟩ := hw
    have hi2 : i < many := hi
    walk_at "go"
    refine take_nat (m := 3) hP (by omega) (by omega) fun c d hc hd => ?_
    have hP2 := pen_put (C := C') (p := p) hc
    have hCe2 := put_other (d := c) hpe.symm hCe
    have hCg2 := put_other (d := c) hpg.symm hCg
    have hO2 := hO.pen (c := c)
    generalize put C' p c = C2 at hP2 hCe2 hCg2 hO2 ⊢
    walk_at "go"
    refine g_append hCe2 ?_ ?_
    · simp only [List.length_map, sizeLine]; omega
    have e3 : ends.map D.bl ++ [D.bl (decide ((d : Int) = 0))] = (ends ++ [decide ((d : Int) = 0)]).map D.bl := by simp
    rw [e3]
    have hl3 : (ends ++ [decide ((d : Int) = 0)]).length = i + 1 := by simp [hl1]
    have hCe3 : (put C2 e (.lst ((ends ++ [decide ((d : Int) = 0)]).map D.bl))) e = some (.lst ((ends ++ [decide ((d : Int) = 0)]).map D.bl)) := put_same
    have hCg3 := put_other (d := .lst ((ends ++ [decide ((d : Int) = 0)]).map D.bl)) heg.symm hCg2
    have hP3 := hP2.other (c := .lst ((ends ++ [decide ((d : Int) = 0)]).map D.bl)) hpe
    have hO3 := hO2.put (c := .lst ((ends ++ [decide ((d : Int) = 0)]).map D.bl)) he0
    generalize put C2 e (.lst ((ends ++ [decide ((d : Int) = 0)]).map D.bl)) = C3 at hCe3 hCg3 hP3 hO3 ⊢
    generalize ends ++ [decide ((d : Int) = 0)] = ends2 at hl3 hCe3
    walk_at "go"
    have hrl : (rangeD 0 (sg : Int).toNat).length = sg := by rw [rangeD_len]; rfl
    refine g_kLc (fun j acc C9 => ∃ r : List (Option Nat), r.length = j ∧ acc = r.map oD ∧ (∀ o ∈ r, inn many o) ∧ C9 e = some (.lst (ends2.map D.bl)) ∧ C9 g = some (.lst (rows.map rowD)) ∧ Pen C9 p ∧ Oth p C C9) (by rw [hrl]; simp only [sizeLine]; omega) ⟨[], rfl, rfl, by simp, hCe3, hCg3, hP3, hO3⟩ (fun j d acc C9 hj hw => ?_) (fun acc C9 hw => ?_)
    · obtain ⟨r, hrl2, rfl, hro, hCe9, hCg9, hP9, hO9⟩ := hw
      walk_at "go"
      refine goal_ok hP9 (by omega) fun c o hc ho => ?_
      refine ⟨r ++ [o], by simp [hrl2], by simp, ?_, put_other hpe.symm hCe9, put_other hpg.symm hCg9, pen_put hc, hO9.pen⟩
      intro o2 ho2
      rcases List.mem_append.mp ho2 with h5 | h5
      · exact hro o2 h5
      · rw [List.mem_singleton.mp h5]; exact ho
    · obtain ⟨r, hrl2, rfl, hro, hCe9, hCg9, hP9, hO9⟩ := hw
      rw [hrl] at hrl2
      walk_at "go"
      refine g_ifJ (fun st C10 => ∃ (ends3 : List Bool) (r : List (Option Nat)), r.length = sg ∧ (∀ o ∈ r, inn many o) ∧ ends3.length = i + 1 ∧ C10 e = some (.lst (ends3.map D.bl)) ∧ C10 g = some (.lst (rows.map rowD)) ∧ Pen C10 p ∧ Oth p C C10 ∧ st = [some (.ce p), some (.int sg), some (.int most), some (.int many), some (.int way), some (.int fence), some (.ce e), some (.ce g), some (.int i), some (.lst (r.map oD)), none, none]) (fun N hN => ?_) (fun st C10 hw => ?_)
      · have skip := hN _ C9 ⟨ends2, r, hrl2, hro, hl3, hCe9, hCg9, hP9, hO9, rfl⟩
        refine g_ifS ?_
        walk_at "go"
        refine g_ite (fun h => ?_) (fun h => ?_)
        · walk_at "go"
          refine g_ite (fun h => ?_) (fun h => ?_)
          · walk_at "go"
            refine g_kSet (k := i) (us := ends2.map D.bl) hCe9 ?_ ?_
            · rw [List.length_map, hl3]
              unfold ixN
              rw [if_pos (by omega), if_pos (by omega)]
              rfl
            walk_at "go"
            refine g_kLcMap (fun d => match d with | .int t => if (fence : Int) ≤ t then .non else .int t | d => d) ?_ (fun d hd R hR => ?_) ?_
            · simp only [List.length_map, hrl2, sizeLine]; omega
            · obtain ⟨o, ho, rfl⟩ := List.mem_map.mp hd
              cases o with
              | none =>
                walk_at "go"
                refine g_kOr (fun _ => ?_) (fun h => by cases h)
                walk_at "go"
                exact hR
              | some t =>
                walk_at "go"
                refine g_kOr (fun h => by cases h) (fun _ => ?_)
                rw [show oD (some t) = .int (t : Int) from rfl]
                walk_at "go"
                have hR' : R (if (fence : Int) ≤ (t : Int) then D.non else .int t) _ := hR
                by_cases h6 : (fence : Int) ≤ (t : Int)
                · rw [if_pos h6] at hR'
                  rw [if_pos (decide_eq_true h6)]
                  exact g_ixL (d := .non) rfl hR'
                · rw [if_neg h6] at hR'
                  rw [if_neg (by simpa using h6)]
                  exact g_ixL (d := oD (some t)) rfl hR'
            · walk_at "go"
              have e6 : (r.map oD).map (fun d => match d with | .int t => if (fence : Int) ≤ t then .non else .int t | d => d) = (r.map (fun o => match o with | some t => if fence ≤ t then none else some t | none => none)).map oD := by
                rw [List.map_map, List.map_map]
                refine List.map_congr_left fun o ho => ?_
                cases o with
                | none => rfl
                | some t =>
                  simp only [Function.comp, oD]
                  by_cases h6 : fence ≤ t
                  · rw [if_pos (by omega), if_pos h6]
                  · rw [if_neg (by omega), if_neg h6]
              rw [e6]
              refine hN _ _ ⟨ends2.set i false, _, by simp [hrl2], row_in (C := C) hro, by simp [hl3], ?_, put_other heg.symm hCg9, hP9.other hpe, hO9.put he0, rfl⟩
              rw [put_same, List.map_set]
          · walk_at "go"
            exact skip
        · walk_at "go"
          exact skip
      · obtain ⟨ends3, r, hrl3, hro3, hl4, hCe10, hCg10, hP10, hO10, rfl⟩ := hw
        walk_at "go"
        refine g_append hCg10 ?_ ?_
        · simp only [List.length_map, sizeLine]; omega
        walk_at "go"
        refine ⟨ends3, rows ++ [r], _, _, hl4, by simp [hl2], ?_, put_other heg hCe10, ?_, hP10.other hpg, hO10.put hg0, rfl⟩
        · intro r' hr'
          rcases List.mem_append.mp hr' with h | h
          · exact hr r' h
          · rw [List.mem_singleton.mp h]
            exact ⟨hrl3, hro3⟩
        · rw [put_same, List.map_append]
          rfl
  · obtain ⟨ends, rows, x8, x9, hl1, hl2, hr, hCe, hCg, hP, hO, rfl⟩ := hw
    walk_at "go"
    have hl1' : ends.length = many := hl1
    have hl2' : rows.length = many := hl2
    refine k ends rows _ ⟨by omega, by omega, by omega, fun r hr2 => (hr r hr2).1, fun r hr2 t ht => by rw [hl1']; exact (hr r hr2).2 _ ht t rfl⟩ (by omega) ((hP.otherD hpe).otherD hpg) ((hO.del he0).del hg0)
end A_k33
namespace A_k33
open PySem L2 AL
theorem run_snoc {goes : List (List (Option Nat))} {s : Option Nat} {r : List Nat} {x : Nat} : runO goes s (r ++ [x]) = stepO goes (runO goes s r) x := by
  unfold runO
  rw [List.foldl_append]
  rfl
/-- the rows told so far, with the stands they lead to -/
def qD (Q : List (Nat × List Nat)) : List D := Q.map fun e => .tup [.int (e.1 : Int), .lst (natsD e.2)]
theorem qD_len (Q : List (Nat × List Nat)) : (qD Q).length = Q.length := by simp [qD]
structure Bfs (sg : Nat) (ends : List Bool) (goes : List (List (Option Nat))) (start : Nat) (Q : List (Nat × List Nat)) : Prop where
  nd : (Q.map (·.1)).Nodup
  lt : ∀ e ∈ Q, e.1 < ends.length
  run : ∀ e ∈ Q, runO goes (some start) e.2 = some e.1
  row : ∀ e ∈ Q, ∀ x ∈ e.2, x < sg
  len : ∀ e ∈ Q, e.2.length + 1 ≤ Q.length
  st : start ∈ Q.map (·.1)
theorem Bfs.most {sg : Nat} {ends : List Bool} {goes : List (List (Option Nat))} {start : Nat} {Q : List (Nat × List Nat)} (h : Bfs sg ends goes start Q) : Q.length ≤ ends.length := by
  have := nodup_bound h.nd (n := ends.length) fun a ha => by obtain ⟨e, he, rfl⟩ := List.mem_map.mp ha; exact h.lt e he
  rwa [List.length_map] at this
theorem Bfs.add {sg : Nat} {ends : List Bool} {goes : List (List (Option Nat))} {start : Nat} {Q : List (Nat × List Nat)} (h : Bfs sg ends goes start Q) {s b x : Nat} {r : List Nat} (hs : (s, r) ∈ Q) (hb : b < ends.length) (hx : x < sg) (hstep : stepO goes (some s) x = some b) (hn : b ∉ Q.map (·.1)) : Bfs sg ends goes start (Q ++ [(b, r ++ [x])]) := by
  refine ⟨?_, fun e he => ?_, fun e he => ?_, fun e he => ?_, fun e he => ?_, ?_⟩
  · rw [List.map_append]
    refine List.nodup_append.mpr ⟨h.nd, by simp, fun y hy z hz e => hn ?_⟩
    have hz2 : z = b := by simpa using hz
    rw [← hz2, ← e]; exact hy
  · rcases List.mem_append.mp he with z | z
    · exact h.lt e z
    · rw [List.mem_singleton.mp z]; exact hb
  · rcases List.mem_append.mp he with z | z
    · exact h.run e z
    · rw [List.mem_singleton.mp z]
      show runO goes (some start) (r ++ [x]) = some b
      rw [run_snoc, h.run _ hs, hstep]
  · rcases List.mem_append.mp he with z | z
    · exact h.row e z
    · rw [List.mem_singleton.mp z]
      intro y hy
      rcases List.mem_append.mp hy with w | w
      · exact h.row _ hs y w
      · rw [List.mem_singleton.mp w]; exact hx
  · rw [List.length_append]
    rcases List.mem_append.mp he with z | z
    · have := h.len e z; omega
    · rw [List.mem_singleton.mp z]
      have := h.len _ hs
      simp only at this
      simp only [List.length_append, List.length_singleton]
      omega
  · rw [List.map_append]
    exact List.mem_append_left _ h.st
section
variable {sg : Nat} {ends : List Bool} {goes : List (List (Option Nat))} {C : AH} {P : D → AH → Prop}
theorem row_to_ok (M : Mach sg ends goes) {start : Nat} {goals : List Nat} (hst : start < ends.length)
    (k1 : ∀ (r : List Nat) (e : Nat) C', AL.Keep C C' → e ∈ goals → e < ends.length → runO goes (some start) r = some e → (∀ x ∈ r, x < sg) → r.length < ends.length → P (.lst (natsD r)) C')
    (k2 : ∀ C', AL.Keep C C' → (∀ e ∈ goals, ¬ Reach (AL.Fw goes) [start] e) → P .non C') : s_law_row_to [machD ends goes, .int (start : Int), .lst (natsD goals)] C P := by
  have hmo := M.most
  have hle := M.len
  unfold s_law_row_to a_law_row_to
  walk_at "go"
  intro q hq
  walk_at "go"
  intro w hw
  have hqw : q ≠ w := ne_cell put_same hw
  have hw0 : C w = none := by rw [put_ne hqw.symm] at hw; exact hw
  walk_at "go"
  refine g_while (fun m st C' => ∃ (Q : List (Nat × List Nat)) (es : List (Key × D)) (j : Nat) (x6 x7 x8 x9 : Option D), Bfs sg ends goes start Q ∧ Ky es (Q.map (·.1)) ∧ C' q = some (.lst (qD Q)) ∧ C' w = some (.dk es) ∧ AL.Keep C C' ∧ j ≤ Q.length ∧ m = ends.length - j ∧
    (∀ i, i < j → ∀ e, Q[i]? = some e → e.1 ∉ goals ∧ ∀ b, AL.Fw goes e.1 b → b ∈ Q.map (·.1)) ∧
    st = [some (machD ends goes), some (.int (start : Int)), some (.lst (natsD goals)), some (.ce q), some (.ce w), some (.int (j : Int)), x6, x7, x8, x9]) ends.length ?_ (fun m st C' hW => ?_)
  · refine ⟨[(start, [])], [(nk start, .bl true)], 0, none, none, none, none, ⟨by simp, fun e he => ?_, fun e he => ?_, fun e he => ?_, fun e he => ?_, by simp⟩, rfl, put_other hqw put_same, put_same, ((Keep.refl _).put hq).put hw0, by simp, by simp, fun i hi => absurd hi (Nat.not_lt_zero _), rfl⟩
    all_goals (rw [List.mem_singleton.mp he])
    · exact hst
    · rfl
    · intro x hx; cases hx
    · simp
  obtain ⟨Q, es, j, x6, x7, x8, x9, hB, hKy, hCq, hCw, hK, hjl, rfl, hcl, rfl⟩ := hW
  have hQn := hB.most
  walk_at "go"
  rw [qD_len]
  refine g_iteD (fun h => ?_) (fun h => ?_)
  · have hj : j < Q.length := by omega
    have hQj : Q[j]? = some Q[j] := List.getElem?_eq_getElem hj
    have hmem : Q[j] ∈ Q := List.getElem_mem hj
    generalize Q[j] = e at hQj hmem
    obtain ⟨s, r⟩ := e
    walk_at "go"
    refine g_ixL (d := .tup [.int (s : Int), .lst (natsD r)]) (atI_nat' (by unfold qD; rw [List.getElem?_map, hQj]; rfl)) ?_
    walk_at "go"
    refine g_ifS ?_
    walk_at "go"
    refine g_inNats ?_
    walk_at "go"
    refine g_iteD (fun hg => ?_) (fun hg => ?_)
    · walk_at "go"
      have := hB.len _ hmem
      exact k1 r s C' hK hg (hB.lt _ hmem) (hB.run _ hmem) (hB.row _ hmem) (by simp only at this; omega)
    walk_at "go"
    have hs : s < ends.length := hB.lt _ hmem
    have hsg : s < goes.length := by omega
    refine get_goC hsg ?_
    have hr : goes[s]? = some goes[s] := List.getElem?_eq_getElem hsg
    have hrl : goes[s].length = sg := M.row _ (List.getElem_mem hsg)
    generalize goes[s] = row at hr hrl
    walk_at "go"
    refine g_kFor (fun i st C2 => ∃ (N : List (Nat × List Nat)) (es : List (Key × D)) (x8 x9 : Option D), Bfs sg ends goes start (Q ++ N) ∧ Ky es ((Q ++ N).map (·.1)) ∧ C2 q = some (.lst (qD (Q ++ N))) ∧ C2 w = some (.dk es) ∧ AL.Keep C C2 ∧
      (∀ b, some b ∈ row.take i → b ∈ (Q ++ N).map (·.1)) ∧
      st = [some (machD ends goes), some (.int (start : Int)), some (.lst (natsD goals)), some (.ce q), some (.ce w), some (.int (j : Int)), some (.int (s : Int)), some (.lst (natsD r)), x8, x9]) ⟨[], es, _, _, by rw [List.append_nil]; exact hB, by rw [List.append_nil]; exact hKy, by rw [List.append_nil]; exact hCq, hCw, hK, by simp, rfl⟩ (fun i d st C2 hi hw => ?_) (fun st C2 hw => ?_)
    · obtain ⟨N, es, x8, x9, hB2, hKy2, hCq2, hCw2, hK2, hd2, rfl⟩ := hw
      obtain ⟨x, hx, rfl⟩ := enumD_inv hi
      rw [List.getElem?_map] at hx
      cases ei : row[i]? with
      | none => rw [ei] at hx; cases hx
      | some o =>
        rw [ei] at hx
        cases hx
        have hil : i < row.length := (List.getElem?_eq_some_iff.mp ei).1
        have ht : row.take (i + 1) = row.take i ++ [o] := by rw [List.take_add_one, ei]; rfl
        have hQN := hB2.most
        walk_at "go"
        refine g_ifS ?_
        walk_at "go"
        cases o with
        | none =>
          rw [show isNon (oD none) = true from rfl]
          walk_at "go"
          refine ⟨N, es, _, _, hB2, hKy2, hCq2, hCw2, hK2, fun b hb => ?_, rfl⟩
          rw [ht] at hb
          rcases List.mem_append.mp hb with z | z
          · exact hd2 b z
          · simp at z
        | some b =>
          have hFw : AL.Fw goes s b := ⟨row, hr, List.mem_of_getElem? ei⟩
          have hbn := (hFw.lt M).2
          rw [show isNon (oD (some b)) = false from rfl]
          walk_at "go"
          refine g_ninKn (n := b) rfl rfl hCw2 hKy2 (fun hb => ?_) (fun hb => ?_)
          · walk_at "go"
            refine ⟨N, es, _, _, hB2, hKy2, hCq2, hCw2, hK2, fun c hc => ?_, rfl⟩
            rw [ht] at hc
            rcases List.mem_append.mp hc with z | z
            · exact hd2 c z
            · have : c = b := by simpa using z
              rw [this]; exact hb
          · walk_at "go"
            refine g_putKv (n := b) rfl rfl hCw2 hKy2 (by rw [List.length_map]; omega) fun es' hKy' => ?_
            walk_at "go"
            have hB3 := hB2.add (s := s) (r := r) (b := b) (x := i) (List.mem_append_left _ hmem) hbn (by omega) (by simp only [stepO, hr, ei]) hb
            rw [List.append_assoc] at hB3
            have hrlen := hB.len _ hmem
            refine g_addL (by simp only [natsD_len, sizeLine, List.length_cons, List.length_nil]; simp only at hrlen; omega) ?_
            walk_at "go"
            refine g_append (put_other hqw hCq2) (by rw [qD_len]; simp only [sizeLine]; omega) ?_
            walk_at "go"
            refine ⟨N ++ [(b, r ++ [i])], es', _, _, hB3, ?_, ?_, put_other hqw.symm put_same, ?_, fun c hc => ?_, rfl⟩
            · rw [addN, if_neg hb] at hKy'
              rw [← List.append_assoc, List.map_append]
              exact hKy'
            · rw [put_same]
              simp [qD, natsD, oD]
            · exact (hK2.put hw0).put hq
            · rw [ht] at hc
              rw [← List.append_assoc, List.map_append]
              rcases List.mem_append.mp hc with z | z
              · exact List.mem_append_left _ (hd2 c z)
              · have : c = b := by simpa using z
                rw [this]; exact List.mem_append_right _ (by simp)
    · obtain ⟨N, es, x8, x9, hB2, hKy2, hCq2, hCw2, hK2, hd2, rfl⟩ := hw
      rw [enumD_len, List.length_map, List.take_length] at hd2
      walk_at "go"
      refine ⟨ends.length - (j + 1), by omega, Q ++ N, es, j + 1, _, _, _, _, hB2, hKy2, hCq2, hCw2, hK2, by simp; omega, rfl, fun i hi e he => ?_, rfl⟩
      by_cases hij : i = j
      · subst hij
        rw [List.getElem?_append_left hj, hQj] at he
        cases he
        refine ⟨hg, fun b hb => ?_⟩
        obtain ⟨r2, g1, g2⟩ := hb
        rw [hr] at g1
        cases g1
        exact hd2 b g2
      · rw [List.getElem?_append_left (by omega)] at he
        obtain ⟨h1, h2⟩ := hcl i (by omega) e he
        exact ⟨h1, fun b hb => by rw [List.map_append]; exact List.mem_append_left _ (h2 b hb)⟩
  · have hjl2 : j = Q.length := by omega
    subst hjl2
    walk_at "go"
    have hall : ∀ a ∈ Q.map (·.1), a ∉ goals ∧ ∀ b, AL.Fw goes a b → b ∈ Q.map (·.1) := fun a ha => by
      obtain ⟨e, he, rfl⟩ := List.mem_map.mp ha
      obtain ⟨i, hi, e2⟩ := List.getElem_of_mem he
      exact hcl i hi e (by rw [List.getElem?_eq_getElem hi, e2])
    refine k2 C' hK fun e he hr => ?_
    have := Reach.closed (L := Q.map (·.1)) (fun a ha => by rw [List.mem_singleton.mp ha]; exact hB.st) (fun a ha b hb => (hall a ha).2 b hb) hr
    exact (hall e this).1 he
end
end A_k33
namespace A_k33
open PySem L2 AL
def Th (d : D) : Prop := okR d 6 = true ∧ blk d ≤ 8000
theorem blks_len : ∀ ds : List D, ds.length ≤ blks ds
  | [] => Nat.zero_le _
  | d :: ds => by have := blks_len ds; simp only [List.length_cons, blks]; omega
theorem blks_mem {d : D} : ∀ {ds : List D}, d ∈ ds → blk d ≤ blks ds
  | [], h => by cases h
  | e :: ds, h => by
    rcases List.mem_cons.mp h with rfl | h
    · simp only [blks]; omega
    · have := blks_mem h; simp only [blks]; omega
theorem kind_of_ok {C : AH} {d : D} {n : Nat} (h : okR d n = true) : (∃ ds, d = .lst ds) ∨ ∃ t, kindOf C d = some t ∧ isT "list" t = false := by
  cases d with
  | lst ds => exact .inl ⟨ds, rfl⟩
  | scr _ => simp [okR] at h
  | ce _ => simp [okR] at h
  | _ => exact .inr ⟨_, rfl, rfl⟩
def isI : D → Bool
  | .int _ => true
  | _ => false
theorem isI_kind {C : AH} {d : D} {n : Nat} (h : okR d n = true) : ∃ t, kindOf C d = some t ∧ isT "int" t = (isI d || t == "bool") ∧ isT "bool" t = (t == "bool") ∧ (isI d = true → (t == "bool") = false) := by
  cases d with
  | scr _ => simp [okR] at h
  | ce _ => simp [okR] at h
  | _ => exact ⟨_, rfl, rfl, rfl, fun h => by first | rfl | cases h⟩
theorem kind_tup {C : AH} {d : D} {n : Nat} (h : okR d n = true) : (∃ ds, d = .tup ds) ∨ ∃ t, kindOf C d = some t ∧ isT "tuple" t = false := by
  cases d with
  | tup ds => exact .inl ⟨ds, rfl⟩
  | scr _ => simp [okR] at h
  | ce _ => simp [okR] at h
  | _ => exact .inr ⟨_, rfl, rfl⟩
theorem kind_str {C : AH} {d : D} {n : Nat} (h : okR d n = true) : (∃ x, d = .str x) ∨ ∃ t, kindOf C d = some t ∧ isT "str" t = false := by
  cases d with
  | str ds => exact .inl ⟨ds, rfl⟩
  | scr _ => simp [okR] at h
  | ce _ => simp [okR] at h
  | _ => exact .inr ⟨_, rfl, rfl⟩
theorem blsD_map {α : Type} (p : α → Bool) : ∀ us : List α, blsD (us.map fun d => D.bl (p d)) = some (us.map p)
  | [] => rfl
  | d :: us => by
    rw [List.map_cons, List.map_cons]
    have := blsD_map p us
    simp only [blsD, this, Option.map_some]
theorem all_id {α : Type} (p : α → Bool) (us : List α) : (us.map p).all id = us.all p := by rw [List.all_map]; rfl
theorem g_lcG {C : AH} {α : Type} {e : AE'} {vs : List Nat} {fin : List D → AH → Prop} {s : ASt} {j : Nat} {xs : List α} {g f : α → D} (hl : xs.length ≤ sizeLine) (hs : ∀ x ∈ xs, ∀ R : D → AH → Prop, R (f x) C → e ((wipeA s vs).set j (some (g x))) C R) (hd : fin (xs.map f) C) : kLc (aGName j) aYes e vs fin s (xs.map g) (fun _ => True) C := by
  refine g_kLc (fun n acc C' => acc = (xs.take n).map f ∧ C = C') (by rw [List.length_map]; exact hl) ⟨rfl, rfl⟩ (fun n d acc C' hn hw => ?_) (fun acc C' hw => ?_)
  · obtain ⟨rfl, rfl⟩ := hw
    rw [List.getElem?_map] at hn
    cases q : xs[n]? with
    | none => rw [q] at hn; cases hn
    | some x =>
      rw [q] at hn
      cases hn
      refine hs x (List.mem_of_getElem? q) _ ⟨?_, rfl⟩
      rw [List.take_add_one, q, List.map_append]
      rfl
  · obtain ⟨rfl, rfl⟩ := hw
    rw [List.length_map, List.take_length]
    exact hd
theorem g_lcF {C : AH} {α : Type} {t : AT'} {e : AE'} {vs : List Nat} {fin : List D → AH → Prop} {s : ASt} {j : Nat} {xs : List α} {g f : α → D} (p : α → Bool) (hl : xs.length ≤ sizeLine) (ht : ∀ x ∈ xs, ∀ R : Bool → AH → Prop, R (p x) C → t ((wipeA s vs).set j (some (g x))) C R) (hs : ∀ x ∈ xs, p x = true → ∀ R : D → AH → Prop, R (f x) C → e ((wipeA s vs).set j (some (g x))) C R) (hd : fin ((xs.filter p).map f) C) : kLc (aGName j) t e vs fin s (xs.map g) (fun _ => True) C := by
  refine g_kLc (fun n acc C' => acc = ((xs.take n).filter p).map f ∧ C = C') (by rw [List.length_map]; exact hl) ⟨rfl, rfl⟩ (fun n d acc C' hn hw => ?_) (fun acc C' hw => ?_)
  · obtain ⟨rfl, rfl⟩ := hw
    rw [List.getElem?_map] at hn
    cases q : xs[n]? with
    | none => rw [q] at hn; cases hn
    | some x =>
      rw [q] at hn
      cases hn
      refine ht x (List.mem_of_getElem? q) _ ?_
      rw [List.take_add_one, q, List.filter_append, List.map_append]
      by_cases hp : p x = true
      · rw [if_pos hp]
        refine hs x (List.mem_of_getElem? q) hp _ ⟨?_, rfl⟩
        simp [hp]
      · rw [if_neg hp]
        exact ⟨by simp [hp], rfl⟩
  · obtain ⟨rfl, rfl⟩ := hw
    rw [List.length_map, List.take_length]
    exact hd
/-- a stand, or a sign's number -/
def isS (n : Nat) : D → Bool
  | .int i => decide (0 ≤ i) && decide (i < (n : Int))
  | _ => false
theorem isS_inv {n : Nat} : ∀ {us : List D}, us.all (isS n) = true → ∃ L : List Nat, us = natsD L ∧ ∀ a ∈ L, a < n
  | [], _ => ⟨[], rfl, by simp⟩
  | u :: us, h => by
    rw [List.all_cons, Bool.and_eq_true] at h
    obtain ⟨L, e, hL⟩ := isS_inv h.2
    have h1 := h.1
    cases u with
    | int i =>
      simp only [isS, Bool.and_eq_true, decide_eq_true_eq] at h1
      refine ⟨i.toNat :: L, by rw [e]; show _ = D.int ((i.toNat : Nat) : Int) :: natsD L; rw [Int.toNat_of_nonneg h1.1], fun a ha => ?_⟩
      rcases List.mem_cons.mp ha with z | z
      · rw [z]; omega
      · exact hL a z
    | _ => simp [isS] at h1
theorem isS_nats {n : Nat} {L : List Nat} (h : ∀ a ∈ L, a < n) : (natsD L).all (isS n) = true := by
  unfold natsD
  rw [List.all_map, List.all_eq_true]
  intro a ha
  have := h a ha
  simp only [Function.comp, isS, Bool.and_eq_true, decide_eq_true_eq]
  omega
theorem natsD_inj {L N : List Nat} (h : natsD L = natsD N) : L = N := by
  induction L generalizing N with
  | nil => cases N with | nil => rfl | cons b N => cases h
  | cons a L ih =>
    cases N with
    | nil => cases h
    | cons b N =>
      have h1 : D.int (a : Int) :: natsD L = D.int (b : Int) :: natsD N := h
      injection h1 with h2 h3
      injection h2 with h4
      rw [ih h3, Int.ofNat.inj h4]
theorem g_eqNatsF {C : AH} {P : D → AH → Prop} {ns : List Nat} (h : P (.bl ns.isEmpty) C) : aEq (.lst (natsD ns)) (.lst []) C P := by
  obtain ⟨x, h1, h2, h3⟩ := okD_shaped (okD_nats ns 1) (by omega)
  refine g_eqP rfl (show pdC C (.lst (natsD ns)) = some x from h1) (v := .list []) rfl h2 (by decide +kernel) ?_
  cases ns with
  | nil =>
    have : x = .list [] := by simpa [D.pd, pdL, eq_comm] using h1
    subst this
    rw [show PyData.eqv (.list []) (.list []) = true by decide +kernel]
    exact h
  | cons a ns =>
    have : ∃ ys, x = .list (.int a :: ys) := by
      simp only [D.pd] at h1
      show ∃ ys, x = .list (.int a :: ys)
      change (pdL (D.int (a : Int) :: natsD ns)).map _ = some x at h1
      unfold pdL at h1
      cases e : pdL (natsD ns) with
      | none => rw [e] at h1; cases h1
      | some ys => rw [e] at h1; cases h1; exact ⟨ys, rfl⟩
    obtain ⟨ys, rfl⟩ := this
    rw [show PyData.eqv (.list (.int a :: ys)) (.list []) = false by rw [PyData.eqv, PyData.eqvAll]]
    exact h
section
variable {sg : Nat} {ends : List Bool} {goes : List (List (Option Nat))} {C : AH} {P : D → AH → Prop}
theorem whole_ok {d : D} {n : Nat} (h : okR d n = true) (k : P (.bl (isI d)) C) : s_is_whole [d] C P := by
  unfold s_is_whole a_is_whole
  obtain ⟨t, h1, h2, h3, h4⟩ := isI_kind (C := C) h
  walk_at "go"
  refine g_kIsi h1 ?_
  rw [h2]
  cases e : isI d with
  | true =>
    rw [e] at k
    walk_at "go"
    refine g_kAnd (fun _ => ?_) (fun h => by cases h)
    walk_at "go"
    refine g_kIsi h1 ?_
    walk_at "go"
    rw [h3, h4 e]
    exact k
  | false =>
    rw [e] at k
    refine g_kAnd (fun hb => ?_) (fun h => ?_)
    · walk_at "go"
      refine g_kIsi h1 ?_
      walk_at "go"
      rw [h3, show (t == "bool") = true from hb]
      exact k
    · exact k
theorem led_ok (M : Mach sg ends goes) {s : Option Nat} {n : Nat} (hs : inn ends.length s) (hn : n < sg) (k : P (oD (stepO goes s n)) C) : s_led [machD ends goes, oD s, .int n] C P := by
  unfold s_led a_led
  cases s with
  | none =>
    walk_at "go"
    refine g_ifT (fun K hK => ?_) ?_
    · walk_at "go"; exact hK
    walk_at "go"
    exact k
  | some u =>
    walk_at "go"
    refine g_ifF (fun K hK => ?_) ?_
    · walk_at "go"; exact hK
    walk_at "go"
    refine get_go M (hs u rfl) hn fun r hr hl => ?_
    walk_at "go"
    rw [stepO_some hr (by rw [hl]; exact hn)] at k
    exact get_in _ k
theorem gone_ok (M : Mach sg ends goes) {s : Option Nat} {row : List Nat} (hs : inn ends.length s) (hr : ∀ n ∈ row, n < sg) (k : P (oD (runO goes s row)) C) : s_gone [machD ends goes, oD s, .lst (natsD row)] C P := by
  unfold s_gone a_gone
  walk_at "go"
  refine g_kForL (fun i st C' => ∃ l, st = [some (machD ends goes), some (oD s), some (.lst (natsD row)), some (oD (runO goes s (row.take i))), l] ∧ C' = C) ⟨_, rfl, rfl⟩ (fun i d st C' hi hw => ?_) (fun st C' hw => ?_)
  · obtain ⟨l, rfl, rfl⟩ := hw
    obtain ⟨hl, rfl⟩ := natsD_get hi
    rw [runO_take hl]
    walk_at "go"
    refine led_ok M (M.run (row.take i) hs fun n hn => hr n (List.mem_of_mem_take hn)) (hr _ (List.getElem_mem hl)) ?_
    walk_at "go"
    exact ⟨_, rfl, rfl⟩
  · obtain ⟨l, rfl, rfl⟩ := hw
    walk_at "go"
    rw [natsD_len, List.take_length]
    exact k
theorem lgone_ok (M : Mach sg ends goes) {s : Option Nat} {row : List Nat} (hs : inn ends.length s) (hr : ∀ n ∈ row, n < sg) (k : P (oD (runO goes s row)) C) : s_law_gone [machD ends goes, oD s, .lst (natsD row)] C P := by
  unfold s_law_gone a_law_gone
  walk_at "go"
  refine g_kForL (fun i st C' => ∃ l, st = [some (machD ends goes), some (oD (runO goes s (row.take i))), some (.lst (natsD row)), l] ∧ C' = C) ⟨_, rfl, rfl⟩ (fun i d st C' hi hw => ?_) (fun st C' hw => ?_)
  · obtain ⟨l, rfl, rfl⟩ := hw
    obtain ⟨hl, rfl⟩ := natsD_get hi
    rw [runO_take hl]
    have hin := M.run (row.take i) hs fun n hn => hr n (List.mem_of_mem_take hn)
    have hn : row[i] < sg := hr _ (List.getElem_mem hl)
    generalize runO goes s (row.take i) = u at hin
    cases u with
    | none =>
      refine g_ifF (fun K hK => ?_) ?_
      · walk_at "go"; exact hK
      walk_at "go"
      exact ⟨_, rfl, rfl⟩
    | some u =>
      refine g_ifT (fun K hK => ?_) ?_
      · walk_at "go"; exact hK
      walk_at "go"
      refine get_go M (hin u rfl) hn fun r hg hl2 => ?_
      walk_at "go"
      rw [stepO_some hg (by rw [hl2]; exact hn)]
      refine get_in (by rw [hl2]; exact hn) ?_
      walk_at "go"
      exact ⟨_, rfl, rfl⟩
  · obtain ⟨l, rfl, rfl⟩ := hw
    walk_at "go"
    rw [natsD_len, List.take_length]
    exact k
def Leads (ends : List Bool) (goes : List (List (Option Nat))) (L : List Nat) (s : Nat) : Prop := ends.getD s false = false ∧ ∀ b, AL.Fw goes s b → b ∈ L
theorem is_row_ok (M : Mach sg ends goes) {d : D} {n : Nat} (h : okR d n = true) (hb : blk d ≤ 8000) (k : ∀ b, (b = true ↔ ∃ L, d = .lst (natsD L) ∧ ∀ a ∈ L, a < sg) → P (.bl b) C) : s_is_row [machD ends goes, d] C P := by
  have hpos := M.pos
  have hle := M.len
  unfold s_is_row a_is_row
  walk_at "go"
  have h0 : 0 < goes.length := by omega
  refine get_goC (u := 0) h0 ?_
  have hrl : goes[0].length = sg := M.row _ (List.getElem_mem h0)
  generalize goes[0] = row at hrl
  walk_at "go"
  rw [List.length_map, hrl]
  rcases kind_of_ok (C := C) h with ⟨us, rfl⟩ | ⟨t, h1, h2⟩
  rotate_left
  · refine g_kIsi h1 ?_
    rw [h2]
    refine g_kAnd (fun z => nomatch z) (fun _ => k false ⟨(fun z => nomatch z), fun ⟨L, e, _⟩ => ?_⟩)
    subst e
    cases h1
    cases h2
  walk_at "go"
  rw [show isT "list" "list" = true from rfl]
  refine g_kAnd (fun _ => ?_) (fun z => nomatch z)
  walk_at "go"
  have hn : ∃ m, ∀ u ∈ us, okR u m = true := by
    cases n with
    | zero => simp [okR] at h
    | succ m => exact ⟨m, okRs_all.mp (by simpa [okR] using h)⟩
  obtain ⟨m, hm⟩ := hn
  have hlen : us.length ≤ 8000 := Nat.le_trans (blks_len us) hb
  refine g_kLcMap (fun d => .bl (isS sg d)) (by simp only [sizeLine]; omega) (fun u hu R hR => ?_) ?_
  · walk_at "go"
    refine whole_ok (hm u hu) ?_
    cases hi : isI u with
    | false =>
      refine g_kAnd (fun z => by first | (cases z; done) | (rw [hi] at z; cases z)) (fun _ => ?_)
      have : isS sg u = false := by cases u <;> first | rfl | cases hi
      rw [this] at hR
      exact hR
    | true =>
      obtain ⟨i, rfl⟩ : ∃ i, u = .int i := by cases u <;> first | exact ⟨_, rfl⟩ | cases hi
      refine g_kAnd (fun _ => ?_) (fun z => nomatch z)
      show aChain _ _ _ _ _ _ _ _
      walk_at "go"
      refine g_kChain (fun z => ?_) (fun z => ?_)
      · walk_at "go"
        have e : isS sg (.int i) = decide (i < (sg : Int)) := by simp only [isS]; rw [z, Bool.true_and]
        rw [e] at hR
        exact hR
      · have e : isS sg (.int i) = false := by simp only [isS]; rw [z, Bool.false_and]
        rw [e] at hR
        exact hR
  · walk_at "go"
    refine g_all (blsD_map _ _) ?_
    rw [all_id]
    refine k _ ⟨fun z => ?_, fun ⟨L, e, hL⟩ => ?_⟩
    · obtain ⟨L, e, hL⟩ := isS_inv z
      exact ⟨L, by rw [e], hL⟩
    · cases e
      exact isS_nats hL
end
end A_k33
namespace A_k33
open PySem L2 AL
theorem g_ifB {t : AT'} {a b : AS'} {nx : ASt → AH → Prop} {rt : D → AH → Prop} {bk ct : ASt → AH → Prop} {s : ASt} {C : AH} (p : Bool) (ht : ∀ K : Bool → AH → Prop, K p C → t s C K) (h1 : p = true → a ⟨nx, rt, bk, ct⟩ s C) (h2 : p = false → b ⟨nx, rt, bk, ct⟩ s C) : aIfS t a b ⟨nx, rt, bk, ct⟩ s C := by
  cases p with
  | true => exact g_ifT ht (h1 rfl)
  | false => exact g_ifF ht (h2 rfl)
theorem okR_sub {us : List D} {n : Nat} (h : okR (.lst us) n = true) : ∃ m, ∀ u ∈ us, okR u m = true := by
  cases n with
  | zero => simp [okR] at h
  | succ m => exact ⟨m, okRs_all.mp (by simpa [okR] using h)⟩
theorem okR_subT {us : List D} {n : Nat} (h : okR (.tup us) n = true) : ∃ m, ∀ u ∈ us, okR u m = true := by
  cases n with
  | zero => simp [okR] at h
  | succ m => exact ⟨m, okRs_all.mp (by simpa [okR] using h)⟩
section
variable {sg : Nat} {ends : List Bool} {goes : List (List (Option Nat))} {C : AH} {P : D → AH → Prop}
theorem leads_row {ends : List Bool} {goes : List (List (Option Nat))} {L : List Nat} {s : Nat} {row : List (Option Nat)} (hr : goes[s]? = some row) : (row.all fun o => match o with | none => true | some b => decide (b ∈ L)) = true ↔ ∀ b, AL.Fw goes s b → b ∈ L := by
  rw [List.all_eq_true]
  constructor
  · intro h b ⟨r, g1, g2⟩
    rw [hr] at g1
    cases g1
    simpa using h _ g2
  · intro h o ho
    cases o with
    | none => rfl
    | some b => exact decide_eq_true (h b ⟨row, hr, ho⟩)
end
end A_k33
namespace A_k33
open PySem L2 AL
section
variable {sg : Nat} {ends : List Bool} {goes : List (List (Option Nat))} {C : AH} {P : D → AH → Prop}
theorem law_stands_ok (M : Mach sg ends goes) {d : D} {n : Nat} (h : okR d n = true) (k : ∀ b, (b = true ↔ ∃ L, d = .lst (natsD L) ∧ ∀ a ∈ L, a < ends.length) → P (.bl b) C) : s_law_stands [machD ends goes, d] C P := by
  have no : (¬ ∃ L, d = .lst (natsD L) ∧ ∀ a ∈ L, a < ends.length) → P (.bl false) C := fun h => k false ⟨(fun z => nomatch z), fun z => absurd z h⟩
  unfold s_law_stands a_law_stands
  walk_at "go"
  rcases kind_of_ok (C := C) h with ⟨us, rfl⟩ | ⟨t, h1, h2⟩
  rotate_left
  · refine g_ifT (fun K hK => ?_) ?_
    · walk_at "go"
      refine g_kIsi h1 ?_
      rw [h2]
      walk_at "go"
      exact hK
    walk_at "go"
    refine no fun ⟨L, e, _⟩ => ?_
    subst e
    cases h1
    cases h2
  obtain ⟨m, hm⟩ := okR_sub h
  refine g_ifF (fun K hK => ?_) ?_
  · walk_at "go"
    rw [show isT "list" "list" = true from rfl]
    walk_at "go"
    exact hK
  walk_at "go"
  refine g_kForL (fun i st C' => ∃ x2, C = C' ∧ (us.take i).all (isS ends.length) = true ∧ st = [some (machD ends goes), some (.lst us), x2]) ⟨_, rfl, rfl, rfl⟩ (fun i d st C' hi hw => ?_) (fun st C' hw => ?_)
  · obtain ⟨x2, rfl, ha, rfl⟩ := hw
    have hd := hm d (List.mem_of_getElem? hi)
    have ht : us.take (i + 1) = us.take i ++ [d] := by rw [List.take_add_one, hi]; rfl
    refine g_ifB (!isS ends.length d) (fun K hK => ?_) (fun hp => ?_) (fun hp => ?_)
    · obtain ⟨t, h1, h2, h3, h4⟩ := isI_kind (C := C) hd
      walk_at "go"
      cases hi : isI d with
      | true =>
        obtain ⟨x, rfl⟩ : ∃ i, d = .int i := by cases d <;> first | exact ⟨_, rfl⟩ | cases hi
        walk_at "go"
        rw [show isT "int" "int" = true from rfl]
        walk_at "go"
        rw [show isT "bool" "int" = false from rfl]
        walk_at "go"
        refine g_kChain (fun z => ?_) (fun z => ?_)
        · walk_at "go"
          rw [List.length_map]
          have e : isS ends.length (.int x) = decide (x < (ends.length : Int)) := by simp only [isS]; rw [z, Bool.true_and]
          rw [e] at hK
          exact hK
        · have e : isS ends.length (.int x) = false := by simp only [isS]; rw [z, Bool.false_and]
          rw [e] at hK
          walk_at "go"
          exact hK
      | false =>
        have e : isS ends.length d = false := by cases d <;> first | rfl | cases hi
        rw [e] at hK
        refine g_kIsi h1 ?_
        rw [h2, hi, Bool.false_or]
        cases hb : (t == "bool") with
        | false =>
          walk_at "go"
          exact hK
        | true =>
          walk_at "go"
          refine g_kIsi h1 ?_
          rw [h3, hb]
          walk_at "go"
          exact hK
    · walk_at "go"
      refine no fun ⟨L, e, hL⟩ => ?_
      cases e
      have := List.all_eq_true.mp (isS_nats hL) d (List.mem_of_getElem? hi)
      rw [this] at hp
      cases hp
    · walk_at "go"
      refine ⟨_, rfl, ?_, rfl⟩
      have hd' : isS ends.length d = true := by simpa using hp
      rw [ht, List.all_append, ha, List.all_cons, hd']
      rfl
  · obtain ⟨x2, rfl, ha, rfl⟩ := hw
    rw [List.take_length] at ha
    walk_at "go"
    obtain ⟨L, e, hL⟩ := isS_inv ha
    exact k true ⟨fun _ => ⟨L, by rw [e], hL⟩, fun _ => rfl⟩
noncomputable def leadsB (ends : List Bool) (goes : List (List (Option Nat))) (L : List Nat) (s : Nat) : Bool := @decide (Leads ends goes L s) (Classical.propDecidable _)
theorem leadsB_iff {ends : List Bool} {goes : List (List (Option Nat))} {L : List Nat} {s : Nat} : leadsB ends goes L s = true ↔ Leads ends goes L s := by
  unfold leadsB
  exact @decide_eq_true_iff _ (Classical.propDecidable _)
theorem law_leads_ok (M : Mach sg ends goes) (hs12 : sg ≤ 12) {L : List Nat} {s : Nat} (hs : s < ends.length) (k : P (.bl (leadsB ends goes L s)) C) : s_law_leads [machD ends goes, .int (s : Int), .lst (natsD L)] C P := by
  have hle := M.len
  have hsg : s < goes.length := by omega
  have hr : goes[s]? = some goes[s] := List.getElem?_eq_getElem hsg
  have hrl : goes[s].length = sg := M.row _ (List.getElem_mem hsg)
  have he : ends.getD s false = ends[s] := by simp [List.getD, List.getElem?_eq_getElem hs]
  have hlr := leads_row (ends := ends) (L := L) hr
  unfold s_law_leads a_law_leads
  walk_at "go"
  refine g_ifB ends[s] (fun K hK => ?_) (fun hp => ?_) (fun hp => ?_)
  · walk_at "go"
    refine get_end hs ?_
    refine g_kTruB ?_
    exact hK
  · walk_at "go"
    have : leadsB ends goes L s = false := by
      rw [Bool.eq_false_iff, Ne, leadsB_iff]
      exact fun z => by rw [← he, z.1] at hp; cases hp
    rw [this] at k
    exact k
  walk_at "go"
  refine get_goC hsg ?_
  walk_at "go"
  refine g_lcG (xs := goes[s]) (g := oD) (f := fun o => D.bl (match o with | none => true | some b => decide (b ∈ L))) (by rw [hrl]; simp only [sizeLine]; omega) (fun o _ R hR => ?_) ?_
  · walk_at "go"
    cases o with
    | none =>
      refine g_kOr (fun _ => hR) (fun z => nomatch z)
    | some b =>
      refine g_kOr (fun z => nomatch z) (fun _ => ?_)
      walk_at "go"
      exact g_inNats hR
  · walk_at "go"
    refine g_all (blsD_map _ _) ?_
    rw [all_id]
    have : leadsB ends goes L s = (goes[s].all fun o => match o with | none => true | some b => decide (b ∈ L)) := by
      rw [Bool.eq_iff_iff, leadsB_iff]
      exact (Iff.intro (fun z => z.2) (fun z => ⟨by rw [he]; exact hp, z⟩)).trans hlr.symm
    rw [← this]
    exact k
end
end A_k33
namespace A_k33
open PySem L2 AL
def kGSet (x d : D) (s : ASt) (Q : ASt → AH → Prop) : D → AH → Prop := fun y C2 => match x, y with
  | .ce p, .int j => (match C2 p with | some (.lst us) => (match ixN us.length j with | some k => Q s (AL.put C2 p (.lst (us.set k d))) | none => False) | _ => False)
  | _, _ => False
theorem g_gset {o i : AE'} {d : D} {s : ASt} {C : AH} {Q : ASt → AH → Prop} (h : o s C fun x C1 => i s C1 (kGSet x d s Q)) : aGSet o i d s C Q := h
theorem ixN_nat {n i : Nat} (h : i < n) : ixN n (i : Int) = some i := by
  unfold ixN
  rw [if_pos (by omega), if_pos (by omega)]
  simp
theorem g_kGSet {C : AH} {d : D} {s : ASt} {Q : ASt → AH → Prop} {p : Addr} {us : List D} {k : Nat} (hC : C p = some (.lst us)) (hk : k < us.length) (h : Q s (AL.put C p (.lst (us.set k d)))) : kGSet (.ce p) d s Q (.int (k : Nat)) C := by
  unfold kGSet
  simp only [hC, ixN_nat hk]
  exact h
theorem frzL_app : ∀ (a b : List D) (C : AH), frzL C (a ++ b) = ((frzL C a).1 ++ (frzL (frzL C a).2 b).1, (frzL (frzL C a).2 b).2)
  | [], b, C => rfl
  | d :: a, b, C => by
    show ((frz1 C d).1 :: (frzL (frz1 C d).2 (a ++ b)).1, (frzL (frz1 C d).2 (a ++ b)).2) = _
    rw [frzL_app a b]
    rfl
theorem flat_rep {d : D} : ∀ n : Nat, (List.replicate n [d]).flatten = List.replicate n d
  | 0 => rfl
  | n + 1 => by rw [List.replicate_succ, List.flatten_cons, flat_rep n]; rfl
theorem g_repM {C : AH} {P : D → AH → Prop} {d : D} {n : Nat} (hn : n ≤ 1000) (h : ∀ p, C p = none → P (.ce p) (AL.put C p (.lst (List.replicate n d)))) : aRepL true (.lst [d]) (.int (n : Int)) C P :=
  ⟨[d], rfl, by omega, by omega, by simp only [sizeLine, List.length_singleton]; omega, by rw [if_pos rfl, Int.toNat_natCast, flat_rep]; exact h⟩
theorem g_repF {C : AH} {P : D → AH → Prop} {d : D} {n : Nat} (hn : n ≤ 1000) (h : P (.lst (List.replicate n d)) C) : aRepL false (.lst [d]) (.int (n : Int)) C P :=
  ⟨[d], rfl, by omega, by omega, by simp only [sizeLine, List.length_singleton]; omega, by rw [if_neg Bool.false_ne_true, Int.toNat_natCast, flat_rep]; exact h⟩
theorem rep_oD (n : Nat) : List.replicate n D.non = (List.replicate n (none : Option Nat)).map oD := by rw [List.map_replicate]; rfl
theorem ring_ok {p : Addr} {sg : Nat} {C : AH} {P : D → AH → Prop} (hp : Pen C p) (h1 : 0 < sg) (h12 : sg ≤ 12)
    (k : ∀ ends goes C', Mach sg ends goes → ends.length ≤ 8 → Pen C' p → P (machD ends goes) C') : s_law_ring [.ce p, .int (sg : Int)] C P := by
  unfold s_law_ring a_law_ring
  walk_at "go"
  refine take_nat (m := 7) hp (by omega) (by omega) fun c d hc hd => ?_
  have hP := pen_put (C := C) (p := p) hc
  generalize AL.put C p c = C1 at hP
  walk_at "go"
  obtain ⟨m, hm⟩ : ∃ m, m = d + 1 := ⟨_, rfl⟩
  rw [show (2 : Int) + (d : Int) = ((m + 1 : Nat) : Int) by omega]
  intro g hg
  have hpg : p ≠ g := by obtain ⟨_, h, _⟩ := hP; exact ne_cell h hg
  have hP1 := hP.other (c := .lst []) hpg
  have hg1 : (AL.put C1 g (.lst [])) g = some (.lst (([] : List Addr).map D.ce)) := put_same
  generalize AL.put C1 g (.lst []) = C2 at hP1 hg1
  walk_at "go"
  refine g_kForR0 (fun i st C' => ∃ (qs : List Addr) (rows : List (List (Option Nat))) (x4 x5 : Option D), qs.length = i ∧ rows.length = i ∧ qs.Nodup ∧ p ∉ qs ∧ g ∉ qs ∧ (∀ (j : Nat) (q : Addr) (r : List (Option Nat)), qs[j]? = some q → rows[j]? = some r → C' q = some (.lst (r.map oD))) ∧
    (∀ r ∈ rows, r.length = sg ∧ ∀ t, some t ∈ r → t < m + 1) ∧ C' g = some (.lst (qs.map D.ce)) ∧ Pen C' p ∧ st = [some (.ce p), some (.int (sg : Int)), some (.int ((m + 1 : Nat) : Int)), some (.ce g), x4, x5]) ⟨[], [], _, _, rfl, rfl, List.nodup_nil, by simp, by simp, (fun j q r hj => by simp at hj), by simp, hg1, hP1, rfl⟩ (fun i st C' hi hw => ?_) (fun st C' hw => ?_)
  · obtain ⟨qs, rows, x4, x5, hql, hrl, hqn, hqp, hqg, hqs, hrows, hCg, hP, rfl⟩ := hw
    have him : i < m + 1 := by have := hi; simp at this; omega
    walk_at "go"
    refine g_repM (by omega) fun q hq => ?_
    have hqg' : g ≠ q := ne_cell hCg hq
    have hqp' : p ≠ q := by obtain ⟨_, h, _⟩ := hP; exact ne_cell h hq
    have hqq : q ∉ qs := fun z => by
      obtain ⟨j, hj, e⟩ := List.getElem_of_mem z
      have := hqs j q rows[j] (by rw [List.getElem?_eq_getElem hj, e]) (List.getElem?_eq_getElem (by omega))
      rw [hq] at this
      cases this
    have hCq3 : (AL.put C' q (.lst (List.replicate sg D.non))) q = some (.lst (List.replicate sg D.non)) := put_same
    have hCg3 := put_other (d := .lst (List.replicate sg D.non)) hqg' hCg
    have hP3 := hP.other (c := .lst (List.replicate sg D.non)) hqp'
    have hqs3 : ∀ (j : Nat) (q' : Addr) (r : List (Option Nat)), qs[j]? = some q' → rows[j]? = some r → (AL.put C' q (.lst (List.replicate sg D.non))) q' = some (.lst (r.map oD)) := fun j q' r hj hr => put_other (fun z => hqq (z ▸ List.mem_of_getElem? hj)) (hqs j q' r hj hr)
    generalize AL.put C' q (.lst (List.replicate sg D.non)) = C3 at hCq3 hCg3 hP3 hqs3
    walk_at "go"
    rw [show ((m + 1 : Nat) : Int) - 1 = (m : Int) by omega]
    walk_at "go"
    rw [show ((i : Int) + 1) % (m : Int) = (((i + 1) % m : Nat) : Int) by simp]
    refine take_nat hP3 h1 (by omega) fun c n hc hn => ?_
    have hP4 := pen_put (C := C3) (p := p) hc
    have hCq4 := put_other (d := c) hqp'.symm hCq3
    have hCg4 := put_other (d := c) hpg.symm hCg3
    have hqs4 : ∀ (j : Nat) (q' : Addr) (r : List (Option Nat)), qs[j]? = some q' → rows[j]? = some r → (AL.put C3 p c) q' = some (.lst (r.map oD)) := fun j q' r hj hr => put_other (fun z => hqp (z ▸ List.mem_of_getElem? hj)) (hqs3 j q' r hj hr)
    generalize AL.put C3 p c = C4 at hP4 hCq4 hCg4 hqs4
    refine g_kSet (k := n) hCq4 (by rw [List.length_replicate]; exact ixN_nat hn) ?_
    have e5 : (List.replicate sg D.non).set n (.int (((i + 1) % m : Nat) : Int)) = ((List.replicate sg (none : Option Nat)).set n (some ((i + 1) % m))).map oD := by
      rw [rep_oD, List.map_set]
      rfl
    rw [e5]
    generalize hrw : (List.replicate sg (none : Option Nat)).set n (some ((i + 1) % m)) = row
    have hrow : row.length = sg ∧ ∀ t, some t ∈ row → t < m + 1 := by
      rw [← hrw]
      refine ⟨by rw [List.length_set, List.length_replicate], fun t ht => ?_⟩
      rcases List.mem_or_eq_of_mem_set ht with z | z
      · have := (List.mem_replicate.mp z).2
        cases this
      · have e : t = (i + 1) % m := Option.some.inj z
        have := Nat.mod_lt (i + 1) (show 0 < m by omega)
        omega
    have hCq5 : (AL.put C4 q (.lst (row.map oD))) q = some (.lst (row.map oD)) := put_same
    have hCg5 := put_other (d := .lst (row.map oD)) hqg' hCg4
    have hP5 := hP4.other (c := .lst (row.map oD)) hqp'
    have hqs5 : ∀ (j : Nat) (q' : Addr) (r : List (Option Nat)), qs[j]? = some q' → rows[j]? = some r → (AL.put C4 q (.lst (row.map oD))) q' = some (.lst (r.map oD)) := fun j q' r hj hr => put_other (fun z => hqq (z ▸ List.mem_of_getElem? hj)) (hqs4 j q' r hj hr)
    generalize AL.put C4 q (.lst (row.map oD)) = C5 at hCq5 hCg5 hP5 hqs5
    walk_at "go"
    refine g_append hCg5 (by rw [List.length_map]; simp only [sizeLine]; omega) ?_
    walk_at "go"
    refine ⟨qs ++ [q], rows ++ [row], _, _, by simp [hql], by simp [hrl], ?_, ?_, ?_, fun j q' r hj hr => ?_, fun r hr => ?_, ?_, hP5.other hpg, rfl⟩
    · refine List.nodup_append.mpr ⟨hqn, by simp, fun a ha b hb e => hqq ?_⟩
      rw [← List.mem_singleton.mp hb, ← e]; exact ha
    · simp [hqp, hqp']
    · simp [hqg, hqg']
    · by_cases hj2 : j < i
      · rw [List.getElem?_append_left (by omega)] at hj
        rw [List.getElem?_append_left (by omega)] at hr
        exact put_other (fun z => hqg (z ▸ List.mem_of_getElem? hj)) (hqs5 j q' r hj hr)
      · have hjl : j < (qs ++ [q]).length := (List.getElem?_eq_some_iff.mp hj).1
        rw [List.length_append, List.length_singleton] at hjl
        have : j = i := by omega
        subst this
        rw [← hql, List.getElem?_append_right (Nat.le_refl _), Nat.sub_self] at hj
        cases hj
        rw [← hrl, List.getElem?_append_right (Nat.le_refl _), Nat.sub_self] at hr
        cases hr
        exact put_other hqg'.symm hCq5
    · rcases List.mem_append.mp hr with z | z
      · exact hrows r z
      · rw [List.mem_singleton.mp z]; exact hrow
    · rw [put_same, List.map_append]
      rfl
  obtain ⟨qs, rows, x4, x5, hql, hrl, hqn, hqp, hqg, hqs, hrows, hCg, hP, rfl⟩ := hw
  have hql : qs.length = m + 1 := hql
  have hrl : rows.length = m + 1 := hrl
  walk_at "go"
  rw [show ((m + 1 : Nat) : Int) - 1 = (m : Int) by omega]
  refine g_gset ?_
  walk_at "go"
  rw [show ((m + 1 : Nat) : Int) - 1 = (m : Int) by omega]
  refine take_nat hP (by omega) (by omega) fun c s1 hc hs1 => ?_
  have hP2 := pen_put (C := C') (p := p) hc
  have hCg2 := put_other (d := c) hpg.symm hCg
  have hqs2 : ∀ (j : Nat) (q : Addr) (r : List (Option Nat)), qs[j]? = some q → rows[j]? = some r → (AL.put C' p c) q = some (.lst (r.map oD)) := fun j q r hj hr => put_other (fun z => hqp (z ▸ List.mem_of_getElem? hj)) (hqs j q r hj hr)
  generalize AL.put C' p c = C3 at hP2 hCg2 hqs2
  have hs1q : s1 < qs.length := by omega
  have hs1r : s1 < rows.length := by omega
  refine g_ixC hCg2 ?_
  refine g_ixL (d := .ce qs[s1]) (atI_nat' (by rw [List.getElem?_map, List.getElem?_eq_getElem hs1q]; rfl)) ?_
  walk_at "go"
  refine take_nat hP2 h1 (by omega) fun c n hc hn => ?_
  have hP3 := pen_put (C := C3) (p := p) hc
  have hCg3 := put_other (d := c) hpg.symm hCg2
  have hqs3 : ∀ (j : Nat) (q : Addr) (r : List (Option Nat)), qs[j]? = some q → rows[j]? = some r → (AL.put C3 p c) q = some (.lst (r.map oD)) := fun j q r hj hr => put_other (fun z => hqp (z ▸ List.mem_of_getElem? hj)) (hqs2 j q r hj hr)
  generalize AL.put C3 p c = C4 at hP3 hCg3 hqs3
  have hrs1 := hrows rows[s1] (List.getElem_mem hs1r)
  refine g_kGSet (hqs3 s1 qs[s1] rows[s1] (List.getElem?_eq_getElem hs1q) (List.getElem?_eq_getElem hs1r)) (by rw [List.length_map]; omega) ?_
  rw [show (rows[s1].map oD).set n (.int (m : Int)) = (rows[s1].set n (some m)).map oD by rw [List.map_set]; rfl]
  have hgs : g ≠ qs[s1] := fun z => hqg (z ▸ List.getElem_mem hs1q)
  have hps : p ≠ qs[s1] := fun z => hqp (z ▸ List.getElem_mem hs1q)
  have hCg4 := put_other (d := .lst ((rows[s1].set n (some m)).map oD)) hgs hCg3
  have hP4 := hP3.other (c := .lst ((rows[s1].set n (some m)).map oD)) hps
  have hqs4 : ∀ (j : Nat) q r, qs[j]? = some q → (rows.set s1 (rows[s1].set n (some m)))[j]? = some r → (AL.put C4 qs[s1] (.lst ((rows[s1].set n (some m)).map oD))) q = some (.lst (r.map oD)) := fun j q r hj hr => by
    by_cases hjs : j = s1
    · subst hjs
      rw [List.getElem?_set_self hs1r] at hr
      cases hr
      rw [List.getElem?_eq_getElem hs1q] at hj
      cases hj
      exact put_same
    · rw [List.getElem?_set_ne (Ne.symm hjs)] at hr
      refine put_other (fun z => hjs ?_) (hqs3 j q r hj hr)
      subst z
      obtain ⟨hjl, hje⟩ := List.getElem?_eq_some_iff.mp hj
      have a1 := hqn.idxOf_getElem j hjl
      have a2 := hqn.idxOf_getElem s1 hs1q
      rw [hje] at a1
      exact a1.symm.trans a2
  generalize AL.put C4 qs[s1] (.lst ((rows[s1].set n (some m)).map oD)) = C5 at hCg4 hP4 hqs4
  generalize hrows2 : rows.set s1 (rows[s1].set n (some m)) = rows2 at hqs4
  have hr2 : rows2.length = m + 1 ∧ ∀ r ∈ rows2, r.length = sg ∧ ∀ t, some t ∈ r → t < m + 1 := by
    rw [← hrows2]
    refine ⟨by rw [List.length_set]; exact hrl, fun r hr => ?_⟩
    rcases List.mem_or_eq_of_mem_set hr with z | z
    · exact hrows r z
    · rw [z]
      refine ⟨by rw [List.length_set]; exact hrs1.1, fun t ht => ?_⟩
      rcases List.mem_or_eq_of_mem_set ht with y | y
      · exact hrs1.2 t y
      · have : t = m := Option.some.inj y
        omega
  obtain ⟨hr2l, hr2⟩ := hr2
  walk_at "go"
  refine g_repF (by omega) ?_
  walk_at "go"
  rw [show ((m + 1 : Nat) : Int) - 1 = (m : Int) by omega]
  refine g_kSet (k := m) hCg4 (by rw [List.length_map]; exact ixN_nat (by omega)) ?_
  have hsplit : ∀ {α : Type} (l : List α), l.length = m + 1 → ∃ (l0 : List α) (x : α), l = l0 ++ [x] ∧ l0.length = m := fun l hl => by
    have hne : l ≠ [] := fun z => by rw [z] at hl; cases hl
    exact ⟨l.dropLast, l.getLast hne, (List.dropLast_concat_getLast hne).symm, by rw [List.length_dropLast, hl]; rfl⟩
  obtain ⟨q0, ql, rfl, hq0⟩ := hsplit qs hql
  obtain ⟨r0, rl', rfl, hr0⟩ := hsplit rows2 hr2l
  have e6 : ((q0 ++ [ql]).map D.ce).set m (.lst (List.replicate sg D.non)) = q0.map D.ce ++ [.lst (List.replicate sg D.non)] := by
    rw [List.map_append, List.set_append_right _ _ (by rw [List.length_map]; omega), List.length_map, hq0, Nat.sub_self]
    rfl
  rw [e6]
  have hP5 := hP4.other (c := .lst (q0.map D.ce ++ [.lst (List.replicate sg D.non)])) hpg
  have hCg5 : (AL.put C5 g (.lst (q0.map D.ce ++ [.lst (List.replicate sg D.non)]))) g = some (.lst (q0.map D.ce ++ [.lst (List.replicate sg D.non)])) := put_same
  have hq0g : ∀ q ∈ q0, q ≠ g := fun q hq z => hqg (by rw [← z]; exact List.mem_append_left _ hq)
  have hq0p : p ∉ q0 := fun z => hqp (List.mem_append_left _ z)
  have hqs5 : ∀ (j : Nat) q r, q0[j]? = some q → r0[j]? = some r → (AL.put C5 g (.lst (q0.map D.ce ++ [.lst (List.replicate sg D.non)]))) q = some (.lst (r.map oD)) := fun j q r hj hr => put_other (hq0g q (List.mem_of_getElem? hj)) (hqs4 j q r (by rw [List.getElem?_append_left (List.getElem?_eq_some_iff.mp hj).1]; exact hj) (by rw [List.getElem?_append_left (List.getElem?_eq_some_iff.mp hr).1]; exact hr))
  generalize AL.put C5 g (.lst (q0.map D.ce ++ [.lst (List.replicate sg D.non)])) = C6 at hP5 hCg5 hqs5
  walk_at "go"
  refine g_frzIn rfl ?_
  have hn0 : q0.Nodup := (List.nodup_append.mp hqn).1
  obtain ⟨f1, f2, f3⟩ := frzL_lists (C := AL.del C6 g) q0 (r0.map fun r => r.map oD) (by rw [List.length_map]; omega) hn0 (fun j q u hj hu => by
    rw [List.getElem?_map] at hu
    cases e : r0[j]? with
    | none => rw [e] at hu; cases hu
    | some r =>
      rw [e] at hu
      cases hu
      exact del_other (hq0g q (List.mem_of_getElem? hj)) (hqs5 j q r hj e))
  rw [frzL_app, f1]
  have hP6 : Pen (frzL (AL.del C6 g) (q0.map D.ce)).2 p := by
    obtain ⟨c, hc1, hc2⟩ := hP5
    exact ⟨c, by rw [f2 p hq0p]; exact del_other hpg hc1, hc2⟩
  rw [show frzL (frzL (AL.del C6 g) (q0.map D.ce)).2 [.lst (List.replicate sg D.non)] = ([.lst (List.replicate sg D.non)], (frzL (AL.del C6 g) (q0.map D.ce)).2) from rfl]
  generalize (frzL (AL.del C6 g) (q0.map D.ce)).2 = C7 at hP6
  walk_at "go"
  refine g_kLcMap (fun d => match d with | .int i => .bl (decide (i = (m : Int))) | d => d) (by rw [rangeD_len]; simp only [sizeLine]; omega) (fun d hd R hR => ?_) ?_
  · obtain ⟨i, hi, e⟩ := List.getElem_of_mem hd
    have hi' : i < ((m + 1 : Nat) : Int).toNat := by rw [rangeD_len] at hi; exact hi
    have e2 := rangeD_get (lo := 0) hi'
    rw [List.getElem?_eq_getElem hi, e] at e2
    cases e2
    walk_at "go"
    rw [show ((m + 1 : Nat) : Int) - 1 = (m : Int) by omega]
    exact hR
  walk_at "go"
  have e8 : (rangeD 0 ((m + 1 : Nat) : Int).toNat).map (fun d => match d with | .int i => D.bl (decide (i = (m : Int))) | d => d) = ((List.range (m + 1)).map fun i => decide (i = m)).map D.bl := by
    rw [Int.toNat_natCast]
    unfold rangeD
    rw [List.map_map, List.map_map]
    refine List.map_congr_left fun i _ => ?_
    show D.bl (decide ((0 : Int) + (i : Int) = (m : Int))) = D.bl (decide (i = m))
    congr 1
    rw [Bool.eq_iff_iff, decide_eq_true_iff, decide_eq_true_iff]
    omega
  rw [e8]
  have e9 : (r0.map fun r => r.map oD).map D.lst ++ [D.lst (List.replicate sg D.non)] = (r0 ++ [List.replicate sg (none : Option Nat)]).map fun r => D.lst (r.map oD) := by
    rw [List.map_append, List.map_map, rep_oD]
    rfl
  rw [e9]
  refine k ((List.range (m + 1)).map fun i => decide (i = m)) (r0 ++ [List.replicate sg none]) C7 ⟨by simp [hr0], by simp, by simp; omega, fun r hr => ?_, fun r hr t ht => ?_⟩ (by simp; omega) hP6
  · rcases List.mem_append.mp hr with z | z
    · exact (hr2 r (List.mem_append_left _ z)).1
    · rw [List.mem_singleton.mp z, List.length_replicate]
  · rw [List.length_map, List.length_range]
    rcases List.mem_append.mp hr with z | z
    · exact (hr2 r (List.mem_append_left _ z)).2 t ht
    · rw [List.mem_singleton.mp z] at ht
      have := (List.mem_replicate.mp ht).2
      cases this
end A_k33
namespace A_k33
open PySem L2 AL
theorem del_put {C : AH} {q : Addr} {c : Cell} (h : C q = none) : del (put C q c) q = C := by
  funext a
  unfold AL.del
  split
  · rename_i e; rw [e, h]
  · rename_i e; exact put_ne e
def Bk (n m : Nat) (d : D) : Prop := okR d n = true ∧ blk d ≤ m
theorem Bk.mono {n m n2 m2 : Nat} {d : D} (h : Bk n m d) (hn : n ≤ n2) (hm : m ≤ m2) : Bk n2 m2 d := ⟨okR_mono h.1 hn, Nat.le_trans h.2 hm⟩
theorem blks_le {m : Nat} : ∀ {ds : List D}, (∀ d ∈ ds, blk d ≤ m) → blks ds ≤ ds.length * (m + 1)
  | [], _ => Nat.zero_le _
  | d :: ds, h => by
    have h1 := h d List.mem_cons_self
    have h2 := blks_le fun e he => h e (List.mem_cons_of_mem _ he)
    simp only [blks, List.length_cons, Nat.add_mul, Nat.one_mul] at *
    omega
theorem Bk.lst {n m l : Nat} {ds : List D} (h : ∀ d ∈ ds, Bk n m d) (hl : ds.length ≤ l) : Bk (n + 1) (l * (m + 1)) (.lst ds) :=
  ⟨by simp only [okR]; exact okRs_all.mpr fun d hd => (h d hd).1, Nat.le_trans (blks_le fun d hd => (h d hd).2) (Nat.mul_le_mul_right _ hl)⟩
theorem Bk.tup {n m l : Nat} {ds : List D} (h : ∀ d ∈ ds, Bk n m d) (hl : ds.length ≤ l) : Bk (n + 1) (l * (m + 1)) (.tup ds) :=
  ⟨by simp only [okR]; exact okRs_all.mpr fun d hd => (h d hd).1, Nat.le_trans (blks_le fun d hd => (h d hd).2) (Nat.mul_le_mul_right _ hl)⟩
theorem Bk.int {i : Int} (h : i.natAbs < 2 ^ 1800) : Bk 0 0 (.int i) := by
  refine ⟨?_, by simp [blk]⟩
  simp only [okR, decide_eq_true_eq]
  by_cases z : i.natAbs = 0
  · rw [z]; decide
  · have := (Nat.log2_lt z).mpr h
    omega
theorem Bk.bl (b : Bool) : Bk 0 0 (.bl b) := ⟨rfl, by simp [blk]⟩
theorem Bk.non : Bk 0 0 .non := ⟨rfl, by simp [blk]⟩
theorem Bk.th {n m : Nat} {d : D} (h : Bk n m d) (hn : n ≤ 6 := by omega) (hm : m ≤ 8000 := by omega) : Th d := h.mono hn hm
theorem big2 : 2 ^ 300 + 1 < 2 ^ 1800 := by decide +kernel
/-- a figure of a part -/
def El (d : D) : Prop := Bk 0 1 d
theorem El.int {i : Int} (h : i.natAbs ≤ 2 ^ 300 + 1) : El (.int i) := (Bk.int (Nat.lt_of_le_of_lt h big2)).mono (by omega) (by omega)
def Got (C : AH) (g : Addr) (n : Nat) : Prop := ∃ acc, C g = some (.lst acc) ∧ acc.length ≤ n ∧ ∀ d ∈ acc, Th d
theorem Got.app {C : AH} {g : Addr} {n : Nat} {d : D} {P : D → AH → Prop} (h : Got C g n) (hn : n ≤ 1000) (hd : Th d) (k : ∀ c, Got (put C g c) g (n + 1) → P .non (put C g c)) : aAppend (.ce g) [d] C P := by
  obtain ⟨acc, h1, h2, h3⟩ := h
  refine g_append h1 ?_ (k _ ⟨_, put_same, ?_, fun e he => ?_⟩)
  · simp only [sizeLine]; omega
  · rw [List.length_append, List.length_singleton]; omega
  · rcases List.mem_append.mp he with h5 | h5
    · exact h3 e h5
    · rw [List.mem_singleton.mp h5]; exact hd
theorem Got.ty {C : AH} {g : Addr} {n : Nat} (h : Got C g n) : isTy "list" C (.ce g) = true := by
  obtain ⟨acc, h1, _⟩ := h
  exact isTy_ce h1 rfl
theorem Got.addM {C : AH} {g : Addr} {n : Nat} {ds : List D} {P : D → AH → Prop} (h : Got C g n) (hn : n + ds.length ≤ 1000) (hd : ∀ d ∈ ds, Th d) (k : ∀ p c, C p = none → Got (put C p c) p (n + ds.length) → P (.ce p) (put C p c)) : aAddM (.ce g) (.lst ds) C P := by
  obtain ⟨acc, h1, h2, h3⟩ := h
  refine ⟨acc, ds, by simp [asL, h1], rfl, by simp only [sizeLine]; omega, fun p hp => k p _ hp ⟨_, put_same, by rw [List.length_append]; omega, fun e he => ?_⟩⟩
  rcases List.mem_append.mp he with h5 | h5
  · exact h3 e h5
  · exact hd e h5
theorem Got.put {C : AH} {g q : Addr} {n : Nat} {c : Cell} (h : Got C g n) (hq : g ≠ q) : Got (put C q c) g n := by
  obtain ⟨acc, h1, h2⟩ := h
  exact ⟨acc, put_other hq h1, h2⟩
theorem Got.ne {C : AH} {g q : Addr} {n : Nat} (h : Got C g n) (hq : C q = none) : g ≠ q := by
  obtain ⟨acc, h1, _⟩ := h
  exact ne_cell h1 hq
theorem Got.le {C : AH} {g : Addr} {n m : Nat} (h : Got C g n) (hm : n ≤ m) : Got C g m := by
  obtain ⟨acc, h1, h2, h3⟩ := h
  exact ⟨acc, h1, by omega, h3⟩
theorem Got.oth {C C' : AH} {g p : Addr} {n : Nat} (h : Got C g n) (hO : Oth p C C') (hn : g ≠ p) : Got C' g n := by
  obtain ⟨acc, h1, h2⟩ := h
  exact ⟨acc, hO g _ hn h1, h2⟩
theorem cutD_sub {us : List D} {a b : Option Int} : (∀ d ∈ cutD us a b, d ∈ us) ∧ (cutD us a b).length ≤ us.length := by
  unfold cutD
  refine ⟨fun d hd => List.mem_of_mem_drop (List.mem_of_mem_take hd), ?_⟩
  rw [List.length_take, List.length_drop]
  omega
theorem g_cutL {C : AH} {P : D → AH → Prop} {us : List D} {a b : Option Int} (k : P (.lst (cutD us a b)) C) : aCut (.lst us) a b C P := k
theorem g_cutT {C : AH} {P : D → AH → Prop} {us : List D} {a b : Option Int} (k : P (.tup (cutD us a b)) C) : aCut (.tup us) a b C P := k
theorem g_disp1F {C : AH} {P : D → AH → Prop} {s : ASt} {i : Int} {e : AE'} (k : e s C fun v C' => P (.dk [(.inl i, v)]) C') : aDispF [(.inl i, e)] s C P := by
  show e s C fun v C' => [((.inl i : Key), v)].length ≤ 15 ∧ P (.dk (mergeD [] [(.inl i, v)])) C'
  rw [show (fun v C' => [((.inl i : Key), v)].length ≤ 15 ∧ P (.dk (mergeD [] [(.inl i, v)])) C') = fun v C' => P (.dk [(.inl i, v)]) C' from by
    funext v C'
    simp [mergeD, putD]]
  exact k
theorem g_dict0F {C : AH} {P : D → AH → Prop} {s : ASt} (k : P (.dk []) C) : aDict0F s C P := k
theorem Pen.keep {C C' : AH} {p : Addr} (h : Pen C p) (hK : AL.Keep C C') : Pen C' p := by
  obtain ⟨c, h1, h2⟩ := h
  exact ⟨c, hK p c h1, h2⟩
end A_k33
namespace A_k33
open PySem L2 AL
def rs (l : List Nat) (r : List (Option Nat)) : Nat := ((r.filterMap id).map fun t => l.getD t 0).sum
def f0 (ends : List Bool) : List Nat := ends.map fun b => if b then 1 else 0
def nxt (goes : List (List (Option Nat))) (l : List Nat) : List Nat := goes.map (rs l)
def T (ends : List Bool) (goes : List (List (Option Nat))) : Nat → List Nat
  | 0 => f0 ends
  | i + 1 => nxt goes (T ends goes i)
def tabD (ends : List Bool) (goes : List (List (Option Nat))) (n : Nat) : List D := (List.range n).map fun i => .lst (natsD (T ends goes i))
theorem T_len {sg : Nat} {ends : List Bool} {goes : List (List (Option Nat))} (M : Mach sg ends goes) : ∀ i, (T ends goes i).length = ends.length
  | 0 => by simp [T, f0]
  | i + 1 => by simp [T, nxt, M.len]
theorem tabD_len (ends : List Bool) (goes : List (List (Option Nat))) (n : Nat) : (tabD ends goes n).length = n := by simp [tabD]
theorem tabD_get {ends : List Bool} {goes : List (List (Option Nat))} {n i : Nat} (h : i < n) : (tabD ends goes n)[i]? = some (.lst (natsD (T ends goes i))) := by
  unfold tabD
  rw [List.getElem?_map, List.getElem?_range h]
  rfl
theorem tabD_succ (ends : List Bool) (goes : List (List (Option Nat))) (n : Nat) : tabD ends goes (n + 1) = tabD ends goes n ++ [.lst (natsD (T ends goes n))] := by
  simp [tabD, List.range_succ]
theorem tabD_last (ends : List Bool) (goes : List (List (Option Nat))) (n : Nat) : atI (tabD ends goes (n + 1)) (-1) = some (.lst (natsD (T ends goes n))) := by
  unfold atI ixN
  rw [tabD_len, if_neg (by omega), if_pos (by omega)]
  show (tabD ends goes (n + 1))[(-1 + ((n + 1 : Nat) : Int)).toNat]? = _
  rw [show (-1 + ((n + 1 : Nat) : Int)).toNat = n by omega]
  exact tabD_get (by omega)
theorem sum_cast : ∀ l : List Nat, (l.map fun (n : Nat) => (n : Int)).sum = ((l.sum : Nat) : Int)
  | [] => rfl
  | n :: l => by rw [List.map_cons, List.sum_cons, List.sum_cons, sum_cast l, Int.natCast_add]
theorem intsD_nats : ∀ l : List Nat, intsD (natsD l) = some (l.map fun (n : Nat) => (n : Int))
  | [] => rfl
  | n :: l => by
    show intsD (.int n :: natsD l) = _
    unfold intsD
    rw [intsD_nats l]
    rfl
section
variable {sg : Nat} {ends : List Bool} {goes : List (List (Option Nat))} {C : AH} {P : D → AH → Prop}
/-- the sum over a row's stands -/
theorem row_sum {l : List Nat} {s : ASt} {r : List (Option Nat)} {fin : List D → AH → Prop} {i j : Nat} {vs : List Nat} (hi : ∀ o : Option Nat, ((wipeA s vs).set j (some (oD o)))[i]? = some (some (.lst (natsD l)))) (hj : ∀ o : Option Nat, ((wipeA s vs).set j (some (oD o)))[j]? = some (some (oD o)))
    (hr : ∀ o ∈ r, inn l.length o) (hl : r.length ≤ 1000) (k : fin (natsD ((r.filterMap id).map fun t => l.getD t 0)) C) : kLc (aGName j) (aB (aOp aNotN (aVar j) (aC .non))) (aOp aIx (aVar i) (aVar j)) vs fin s (r.map oD) (fun _ => True) C := by
  refine g_kLc (fun n acc C' => acc = natsD (((r.take n).filterMap id).map fun t => l.getD t 0) ∧ C' = C) (by rw [List.length_map]; simp only [sizeLine]; omega) ⟨rfl, rfl⟩ (fun n d acc C' hn hw => ?_) (fun acc C' hw => ?_)
  · obtain ⟨rfl, rfl⟩ := hw
    rw [List.getElem?_map] at hn
    cases q : r[n]? with
    | none => rw [q] at hn; cases hn
    | some o =>
      rw [q] at hn
      cases hn
      rw [List.take_add_one, q, List.filterMap_append, List.map_append]
      refine g_gname' rfl ?_
      refine g_B (g_op (g_var (hj o) (g_c (g_isnot (g_kB ?_)))))
      cases o with
      | none =>
        refine g_iteNT ⟨?_, rfl⟩
        simp
      | some t =>
        refine g_iteNF (g_op (g_var (hi (some t)) (g_var (hj (some t)) ?_)))
        have ht : t < l.length := hr (some t) (List.mem_of_getElem? q) t rfl
        refine g_ixL (d := .int (l[t] : Nat)) (atI_nat' ?_) ⟨?_, rfl⟩
        · unfold natsD
          rw [List.getElem?_map, List.getElem?_eq_getElem ht]
          rfl
        · simp [natsD, List.getD, List.getElem?_eq_getElem ht]
  · obtain ⟨rfl, rfl⟩ := hw
    rw [List.length_map, List.take_length]
    exact k
theorem ltable_ok (M : Mach sg ends goes) {most : Nat} (hs : sg ≤ 12) (hm : most ≤ 10000) (k : P (.lst (tabD ends goes (most + 1))) C) : s_law_table [machD ends goes, .int most] C P := by
  unfold s_law_table a_law_table
  have hmo := M.most
  have hle := M.len
  walk_at "go"
  refine g_kLcMap (fun d => match d with | .bl b => .int (if b = true then 1 else 0) | d => d) ?_ (fun d hd R hR => ?_) ?_
  · simp only [List.length_map, sizeLine]; omega
  · obtain ⟨b, _, rfl⟩ := List.mem_map.mp hd
    walk_at "go"
    exact hR
  have e : (ends.map D.bl).map (fun d => match d with | .bl b => .int (if b = true then 1 else 0) | d => d) = natsD (f0 ends) := by
    unfold natsD f0
    rw [List.map_map, List.map_map]
    refine List.map_congr_left fun b _ => ?_
    cases b <;> rfl
  rw [e]
  walk_at "go"
  intro q hq
  walk_at "go"
  refine g_while (fun m st C' => ∃ i x3, i ≤ most ∧ m = most - i ∧ C' = put C q (.lst (tabD ends goes (i + 1))) ∧ st = [some (machD ends goes), some (.int most), some (.ce q), x3, none, none, none]) most ⟨0, none, by omega, by omega, rfl, rfl⟩ (fun m st C' hw => ?_)
  obtain ⟨i, x3, hi, rfl, rfl, rfl⟩ := hw
  walk_at "go"
  rw [tabD_len]
  refine g_iteD (fun h => ?_) (fun h => ?_)
  · walk_at "go"
    refine g_ixL (tabD_last ends goes i) ?_
    walk_at "go"
    refine g_kLc (fun n acc C2 => acc = natsD ((goes.take n).map (rs (T ends goes i))) ∧ C2 = put C q (.lst (tabD ends goes (i + 1)))) (by rw [List.length_map]; simp only [sizeLine]; omega) ⟨rfl, rfl⟩ (fun n d acc C2 hn hw => ?_) (fun acc C2 hw => ?_)
    · obtain ⟨rfl, rfl⟩ := hw
      rw [List.getElem?_map] at hn
      cases e : goes[n]? with
      | none => rw [e] at hn; cases hn
      | some r =>
        rw [e] at hn
        cases hn
        have hr := List.mem_of_getElem? e
        walk_at "go"
        refine row_sum (l := T ends goes i) ?_ ?_ (fun o ho t ht => by subst ht; rw [T_len M]; exact M.go r hr t ho) (by rw [M.row r hr]; omega) ?_
        · exact fun o => rfl
        · exact fun o => rfl
        walk_at "go"
        refine g_sum (intsD_nats _) ⟨?_, rfl⟩
        rw [sum_cast, List.take_add_one, e, List.map_append]
        simp [natsD, rs]
    · obtain ⟨rfl, rfl⟩ := hw
      rw [List.length_map, List.take_length]
      walk_at "go"
      refine g_append put_same ?_ ?_
      · rw [tabD_len]; simp only [sizeLine]; omega
      walk_at "go"
      refine ⟨most - (i + 1), by omega, i + 1, _, by omega, by omega, ?_, rfl⟩
      rw [put_put, tabD_succ ends goes (i + 1)]
      rfl
  · walk_at "go"
    rw [del_put hq, show i = most by omega]
    exact k
end
end A_k33
namespace A_k33
open PySem L2 AL
theorem T_zero0 {ends : List Bool} {goes : List (List (Option Nat))} {s : Nat} (h : ends.getD s false = false) : (T ends goes 0).getD s 0 = 0 := by
  show (f0 ends).getD s 0 = 0
  unfold f0
  rw [List.getD_eq_getElem?_getD, List.getElem?_map]
  rw [List.getD_eq_getElem?_getD] at h
  cases e : ends[s]? with
  | none => rfl
  | some b =>
    rw [e] at h
    have : b = false := h
    rw [this]
    rfl
theorem sum_zero : ∀ {l : List Nat}, (∀ x ∈ l, x = 0) → l.sum = 0
  | [], _ => rfl
  | a :: l, h => by
    rw [List.sum_cons, h a (by simp), sum_zero fun x hx => h x (List.mem_cons_of_mem _ hx)]
theorem T_zeroS {ends : List Bool} {goes : List (List (Option Nat))} {s i : Nat} (h : ∀ b, AL.Fw goes s b → (T ends goes i).getD b 0 = 0) : (T ends goes (i + 1)).getD s 0 = 0 := by
  show (nxt goes (T ends goes i)).getD s 0 = 0
  unfold nxt
  rw [List.getD_eq_getElem?_getD, List.getElem?_map]
  cases e : goes[s]? with
  | none => rfl
  | some row =>
    show rs (T ends goes i) row = 0
    unfold rs
    refine sum_zero fun x hx => ?_
    obtain ⟨t, ht, rfl⟩ := List.mem_map.mp hx
    obtain ⟨o, ho, e2⟩ := List.mem_filterMap.mp ht
    have : o = some t := e2
    subst this
    exact h t ⟨row, e, ho⟩
end A_k33
namespace A_k33
open PySem L2 AL
abbrev BS := List Nat × (Nat → Option (List Nat))
/-- behind the first c entries of a row -/
def sc (r : List Nat) (row : List (Option Nat)) (S : BS) : Nat → BS
  | 0 => S
  | c + 1 => match row[c]? with
    | some (some t) => if ((sc r row S c).2 t).isSome = true then sc r row S c else ((sc r row S c).1 ++ [t], fun m => if m = t then some (r ++ [c]) else (sc r row S c).2 m)
    | _ => sc r row S c
/-- behind n stands -/
def bst (goes : List (List (Option Nat))) : Nat → BS
  | 0 => ([0], fun m => if m = 0 then some [] else none)
  | n + 1 => match (bst goes n).1[n]? with
    | some s => sc (((bst goes n).2 s).getD []) (goes.getD s []) (bst goes n) (goes.getD s []).length
    | none => bst goes n
structure Ext (r : List Nat) (S T : BS) : Prop where
  ex : ∃ B, T.1 = S.1 ++ B ∧ ∀ t ∈ B, S.2 t = none ∧ ∃ d, T.2 t = some (r ++ [d])
  old : ∀ t, (S.2 t).isSome = true → T.2 t = S.2 t
structure Inv (N : Nat) (S : BS) : Prop where
  nd : S.1.Nodup
  mem : ∀ t, t ∈ S.1 ↔ (S.2 t).isSome = true
  lt : ∀ t ∈ S.1, t < N
theorem Inv.len {N : Nat} {S : BS} (h : Inv N S) : S.1.length ≤ N := nodup_bound h.nd h.lt
theorem sc_ok {N : Nat} {r : List Nat} {row : List (Option Nat)} {S : BS} (hS : Inv N S) (hr : ∀ t, some t ∈ row → t < N) : ∀ c, Inv N (sc r row S c) ∧ Ext r S (sc r row S c)
  | 0 => ⟨hS, ⟨[], by simp [sc], by simp⟩, fun _ _ => rfl⟩
  | c + 1 => by
    obtain ⟨h1, h2⟩ := sc_ok hS hr c
    unfold sc
    split
    · rename_i t ht
      split
      · exact ⟨h1, h2⟩
      · rename_i hn
        have htN := hr t (List.mem_of_getElem? ht)
        have htW : t ∉ (sc r row S c).1 := fun z => hn ((h1.mem t).mp z)
        refine ⟨⟨?_, fun u => ?_, fun u hu => ?_⟩, ⟨?_, fun u hu => ?_⟩⟩
        · refine List.nodup_append.mpr ⟨h1.nd, by simp, fun a ha b hb e => htW ?_⟩
          rw [← List.mem_singleton.mp hb, ← e]; exact ha
        · show u ∈ (sc r row S c).1 ++ [t] ↔ (if u = t then some (r ++ [c]) else (sc r row S c).2 u).isSome = true
          by_cases e : u = t
          · rw [if_pos e, e]; simp
          · rw [if_neg e, List.mem_append, List.mem_singleton, ← h1.mem u]
            exact ⟨fun z => z.resolve_right e, .inl⟩
        · rcases List.mem_append.mp hu with z | z
          · exact h1.lt u z
          · rw [List.mem_singleton.mp z]; exact htN
        · obtain ⟨B, hB, hB2⟩ := h2.ex
          refine ⟨B ++ [t], by show (sc r row S c).1 ++ [t] = _; rw [hB, List.append_assoc], fun u hu => ?_⟩
          show S.2 u = none ∧ ∃ d, (if u = t then some (r ++ [c]) else (sc r row S c).2 u) = some (r ++ [d])
          by_cases e : u = t
          · rw [if_pos e, e]
            refine ⟨?_, c, rfl⟩
            cases q : S.2 t with
            | none => rfl
            | some x =>
              have := h2.old t (by rw [q]; rfl)
              rw [this, q] at hn
              exact absurd rfl hn
          · rw [if_neg e]
            rcases List.mem_append.mp hu with z | z
            · exact hB2 u z
            · exact absurd (List.mem_singleton.mp z) e
        · show (if u = t then some (r ++ [c]) else (sc r row S c).2 u) = S.2 u
          by_cases e : u = t
          · have := h2.old u hu
            rw [e] at this hu
            rw [this] at hn
            exact absurd hu hn
          · rw [if_neg e]; exact h2.old u hu
    · exact ⟨h1, h2⟩
section
variable {sg : Nat} {ends : List Bool} {goes : List (List (Option Nat))}
theorem row_lt (M : Mach sg ends goes) (s : Nat) : ∀ t, some t ∈ goes.getD s [] → t < ends.length := fun t ht => by
  rw [List.getD_eq_getElem?_getD] at ht
  cases e : goes[s]? with
  | none => rw [e] at ht; simp at ht
  | some row => rw [e] at ht; exact M.go row (List.mem_of_getElem? e) t ht
theorem bst_inv (M : Mach sg ends goes) : ∀ n, Inv ends.length (bst goes n)
  | 0 => ⟨by simp [bst], fun t => by
      show t ∈ [0] ↔ (if t = 0 then some [] else none : Option (List Nat)).isSome = true
      by_cases e : t = 0
      · simp [e]
      · simp [e], fun t ht => by
      rw [List.mem_singleton.mp ht]; exact M.pos⟩
  | n + 1 => by
    unfold bst
    split
    · exact (sc_ok (bst_inv M n) (row_lt M _) _).1
    · exact bst_inv M n
theorem bst_step {n s : Nat} (h : (bst goes n).1[n]? = some s) : bst goes (n + 1) = sc (((bst goes n).2 s).getD []) (goes.getD s []) (bst goes n) (goes.getD s []).length := by
  rw [bst, h]
theorem bst_ext (M : Mach sg ends goes) {n s : Nat} (h : (bst goes n).1[n]? = some s) : Ext (((bst goes n).2 s).getD []) (bst goes n) (bst goes (n + 1)) := by
  rw [bst_step h]
  exact (sc_ok (bst_inv M n) (row_lt M _) _).2
theorem bst_stop {n : Nat} (h : (bst goes n).1[n]? = none) : bst goes (n + 1) = bst goes n := by
  rw [bst, h]
/-- how long the row to a stand is -/
def ln (S : BS) (t : Nat) : Nat := ((S.2 t).getD []).length
theorem Ext.ln_old {r : List Nat} {S T : BS} (h : Ext r S T) {t : Nat} (ht : (S.2 t).isSome = true) : ln T t = ln S t := by unfold ln; rw [h.old t ht]
theorem Ext.ln_new {r : List Nat} {S T : BS} (h : Ext r S T) {N : Nat} (hS : Inv N S) {t : Nat} (ht : t ∈ T.1) (hn : t ∉ S.1) : ln T t = r.length + 1 := by
  obtain ⟨B, h1, h2⟩ := h.ex
  rw [h1] at ht
  rcases List.mem_append.mp ht with z | z
  · exact absurd z hn
  · obtain ⟨_, d, h3⟩ := h2 t z
    unfold ln
    rw [h3]
    simp
theorem mono (M : Mach sg ends goes) : ∀ n, (∀ (i j a b : Nat), (bst goes n).1[i]? = some a → (bst goes n).1[j]? = some b → i ≤ j → ln (bst goes n) a ≤ ln (bst goes n) b) ∧ ∀ s, (bst goes n).1[n]? = some s → ∀ t ∈ (bst goes n).1, ln (bst goes n) t ≤ ln (bst goes n) s + 1
  | 0 => by
    have h0 : ∀ i a, (bst goes 0).1[i]? = some a → i = 0 ∧ a = 0 := fun i a h => by
      cases i with
      | zero => cases h; exact ⟨rfl, rfl⟩
      | succ i => simp [bst] at h
    refine ⟨fun i j a b hi hj _ => ?_, fun s hs t ht => ?_⟩
    · rw [(h0 i a hi).2, (h0 j b hj).2]; exact Nat.le_refl _
    · have : t = 0 := List.mem_singleton.mp ht
      rw [this]
      have : ln (bst goes 0) 0 = 0 := rfl
      omega
  | n + 1 => by
    obtain ⟨ih1, ih2⟩ := mono M n
    have hI := bst_inv M n
    cases hs : (bst goes n).1[n]? with
    | none =>
      rw [bst_stop hs]
      refine ⟨ih1, fun s h => ?_⟩
      have h1 := List.getElem?_eq_none_iff.mp hs
      have h2 := (List.getElem?_eq_some_iff.mp h).1
      omega
    | some s =>
      have hE := bst_ext M hs
      have hI2 := bst_inv M (n + 1)
      have hsW : s ∈ (bst goes n).1 := List.mem_of_getElem? hs
      have hb := ih2 s hs
      have hold : ∀ t ∈ (bst goes n).1, ln (bst goes (n + 1)) t = ln (bst goes n) t := fun t ht => hE.ln_old ((hI.mem t).mp ht)
      have hall : ∀ t ∈ (bst goes (n + 1)).1, ln (bst goes (n + 1)) t ≤ ln (bst goes n) s + 1 := fun t ht => by
        by_cases h : t ∈ (bst goes n).1
        · rw [hold t h]; exact hb t h
        · rw [hE.ln_new hI ht h]; exact Nat.le_refl _
      obtain ⟨B, hB, hB2⟩ := hE.ex
      have hm : ∀ (i j a b : Nat), (bst goes (n + 1)).1[i]? = some a → (bst goes (n + 1)).1[j]? = some b → i ≤ j → ln (bst goes (n + 1)) a ≤ ln (bst goes (n + 1)) b := fun i j a b hi hj hij => by
        by_cases hbW : b ∈ (bst goes n).1
        · -- b old: then its index is within the old ones
          have hjl : j < (bst goes n).1.length := by
            obtain ⟨j', hj', e⟩ := List.getElem_of_mem hbW
            have hj2 : (bst goes (n + 1)).1[j']? = some b := by rw [hB, List.getElem?_append_left hj', List.getElem?_eq_getElem hj', e]
            have hj1 := (List.getElem?_eq_some_iff.mp hj).1
            have a1 := hI2.nd.idxOf_getElem j hj1
            have hj3 := (List.getElem?_eq_some_iff.mp hj2).1
            have a2 := hI2.nd.idxOf_getElem j' hj3
            rw [(List.getElem?_eq_some_iff.mp hj).2] at a1
            rw [(List.getElem?_eq_some_iff.mp hj2).2] at a2
            omega
          rw [hB, List.getElem?_append_left (by omega)] at hi
          rw [hB, List.getElem?_append_left hjl] at hj
          rw [hold a (List.mem_of_getElem? hi), hold b hbW]
          exact ih1 i j a b hi hj hij
        · rw [hE.ln_new hI (List.mem_of_getElem? hj) hbW]
          exact hall a (List.mem_of_getElem? hi)
      refine ⟨hm, fun s' hs' t ht => ?_⟩
      have h1 := hall t ht
      have hn' : (bst goes (n + 1)).1[n]? = some s := by rw [hB, List.getElem?_append_left (List.getElem?_eq_some_iff.mp hs).1]; exact hs
      have h2 := hm n (n + 1) s s' hn' hs' (by omega)
      rw [hold s hsW] at h2
      omega
theorem ln_lt (M : Mach sg ends goes) : ∀ n, ∀ t ∈ (bst goes n).1, ln (bst goes n) t < (bst goes n).1.length
  | 0 => fun t ht => by
    have : t = 0 := List.mem_singleton.mp ht
    subst this
    exact Nat.zero_lt_one
  | n + 1 => fun t ht => by
    have hI := bst_inv M n
    cases hs : (bst goes n).1[n]? with
    | none => rw [bst_stop hs] at ht ⊢; exact ln_lt M n t ht
    | some s =>
      have hE := bst_ext M hs
      obtain ⟨B, hB, _⟩ := hE.ex
      by_cases h : t ∈ (bst goes n).1
      · rw [hE.ln_old ((hI.mem t).mp h), hB, List.length_append]
        have := ln_lt M n t h
        omega
      · rw [hE.ln_new hI ht h]
        have h1 := ln_lt M n s (List.mem_of_getElem? hs)
        have h2 : t ∈ (bst goes n).1 ++ B := by rw [← hB]; exact ht
        have h3 := List.length_pos_of_mem ((List.mem_append.mp h2).resolve_left h)
        rw [hB, List.length_append]
        unfold ln at h1
        omega
/-- what comes later -/
theorem later (M : Mach sg ends goes) {n m : Nat} (h : n ≤ m) : (∃ X, (bst goes m).1 = (bst goes n).1 ++ X) ∧ (∀ t, ((bst goes n).2 t).isSome = true → (bst goes m).2 t = (bst goes n).2 t) ∧ ∀ s, (bst goes n).1[n]? = some s → ∀ t ∈ (bst goes m).1, t ∉ (bst goes n).1 → ln (bst goes n) s + 1 ≤ ln (bst goes m) t := by
  induction m with
  | zero =>
    have : n = 0 := by omega
    subst this
    exact ⟨⟨[], by simp⟩, fun _ _ => rfl, fun s hs t h1 h2 => absurd h1 h2⟩
  | succ m ih =>
    by_cases e : n = m + 1
    · subst e
      exact ⟨⟨[], by simp⟩, fun _ _ => rfl, fun s hs t h1 h2 => absurd h1 h2⟩
    obtain ⟨⟨X, h1⟩, h2, h3⟩ := ih (by omega)
    have hI := bst_inv M m
    cases hs : (bst goes m).1[m]? with
    | none => rw [bst_stop hs]; exact ⟨⟨X, h1⟩, h2, h3⟩
    | some u =>
      have hE := bst_ext M hs
      obtain ⟨B, hB, _⟩ := hE.ex
      refine ⟨⟨X ++ B, by rw [hB, h1, List.append_assoc]⟩, fun t ht => ?_, fun s hs' t ht hn => ?_⟩
      · rw [hE.old t (by rw [h2 t ht]; exact ht), h2 t ht]
      · by_cases hm : t ∈ (bst goes m).1
        · rw [hE.ln_old ((hI.mem t).mp hm)]
          exact h3 s hs' t hm hn
        · rw [hE.ln_new hI ht hm]
          have hnm : (bst goes m).1[n]? = some s := by rw [h1, List.getElem?_append_left (List.getElem?_eq_some_iff.mp hs').1]; exact hs'
          have hmo := (mono M m).1 n m s u hnm hs (by omega)
          have hso : ln (bst goes m) s = ln (bst goes n) s := by unfold ln; rw [h2 s (((bst_inv M n).mem s).mp (List.mem_of_getElem? hs'))]
          show ln (bst goes n) s + 1 ≤ ln (bst goes m) u + 1
          omega
theorem bst_fix {n : Nat} (h : (bst goes n).1.length ≤ n) : ∀ m, n ≤ m → bst goes m = bst goes n := by
  intro m hm
  induction m with
  | zero => have : n = 0 := by omega
            rw [this]
  | succ m ih =>
    by_cases e : n = m + 1
    · rw [e]
    · have ih := ih (by omega)
      rw [bst_stop (by rw [ih]; exact List.getElem?_eq_none (by omega)), ih]
/-- the stands to which the row has j numbers -/
noncomputable def lay (goes : List (List (Option Nat))) (N n j : Nat) : List Nat := rl N fun t => ∃ r, (bst goes n).2 t = some r ∧ r.length = j
end
end A_k33
namespace A_k33
open PySem L2 AL
theorem g_maxX {d : D} {L : List Nat} (h : asLr C d = some (natsD L)) (hl : 0 < L.length) (k : ∀ m, m ∈ L → (∀ y ∈ L, y ≤ m) → P (.int (m : Nat)) C) : aMaxL [d] C P := by
  refine ⟨natsD L, L.map fun (n : Nat) => (n : Int), h, by unfold natsD; rw [List.map_map]; rfl, by rw [List.length_map]; exact hl, fun m hm hmax => ?_⟩
  obtain ⟨n, hn, rfl⟩ := List.mem_map.mp hm
  refine k n hn fun y hy => ?_
  have := hmax y (List.mem_map.mpr ⟨y, hy, rfl⟩)
  omega
abbrev Ml (es : List (Key × D)) (L : List Nat) (f : Nat → Option (List Nat)) : Prop := Mp es L fun m => (f m).map fun r => D.lst (natsD r)
theorem Ml.put {es : List (Key × D)} {L : List Nat} {f : Nat → Option (List Nat)} (h : Ml es L f) (n : Nat) (r : List Nat) : Ml (putD es (nk n) (.lst (natsD r))) (addN L n) fun m => if m = n then some r else f m := by
  have := Mp.put h n (.lst (natsD r))
  refine ⟨this.ky, this.nd, fun m => ?_⟩
  rw [this.at' m]
  by_cases e : m = n
  · simp [e]
  · simp [e]
theorem natsD_app (L N : List Nat) : natsD (L ++ N) = natsD L ++ natsD N := by unfold natsD; rw [List.map_append]
theorem addN_new {L : List Nat} {n : Nat} (h : n ∉ L) : addN L n = L ++ [n] := by unfold addN; rw [if_neg h]
end A_k33
namespace A_k33
open PySem L2 AL
def lyD (LL : List (List Nat)) : List D := LL.map fun L => .lst (natsD L)
theorem lyD_len (LL : List (List Nat)) : (lyD LL).length = LL.length := by simp [lyD]
theorem lyD_get {LL : List (List Nat)} {i : Nat} (h : i < LL.length) : (lyD LL)[i]? = some (.lst (natsD (LL.getD i []))) := by
  unfold lyD
  rw [List.getElem?_map, List.getElem?_eq_getElem h, List.getD_eq_getElem?_getD, List.getElem?_eq_getElem h]
  rfl
theorem lyD_app (A B : List (List Nat)) : lyD (A ++ B) = lyD A ++ lyD B := by simp [lyD]
theorem lyD_inj {A B : List (List Nat)} (h : lyD A = lyD B) : A = B := by
  induction A generalizing B with
  | nil => cases B with | nil => rfl | cons b B => cases h
  | cons a A ih =>
    cases B with
    | nil => cases h
    | cons b B =>
      have h1 : D.lst (natsD a) :: lyD A = D.lst (natsD b) :: lyD B := h
      injection h1 with h2 h3
      injection h2 with h4
      rw [ih h3, natsD_inj h4]
structure Lyr (n : Nat) (d : D) (LL : List (List Nat)) : Prop where
  eq : d = .lst (lyD LL)
  ne : LL ≠ []
  lt : ∀ L ∈ LL, ∀ a ∈ L, a < n
  st : 0 ∈ LL.getD 0 []
theorem Lyr.pos {n : Nat} {d : D} {LL : List (List Nat)} (h : Lyr n d LL) : 0 < LL.length := List.length_pos_iff.mpr h.ne
def Ins (ends : List Bool) (goes : List (List (Option Nat))) (LL : List (List Nat)) (m : Nat) : Prop := ∀ i, i < m → ∀ s ∈ LL.getD i [], Leads ends goes (LL.take (i + 2)).flatten s
def letB (ends : List Bool) (s : Option Nat) : Bool := match s with | none => false | some u => ends.getD u false
def HNn (ends : List Bool) (goes : List (List (Option Nat))) (d : D) : Prop := ∃ x LL, d = .tup [.str "none", x] ∧ Lyr ends.length x LL ∧ Ins ends goes LL LL.length
def HRw (sg : Nat) (ends : List Bool) (goes : List (List (Option Nat))) (d : D) : Prop := ∃ y R LL, d = .tup [.str "row", .lst (natsD R), y] ∧ Lyr ends.length y LL ∧ (∀ a ∈ R, a < sg) ∧ R.length + 1 = LL.length ∧ letB ends (runO goes (some 0) R) = true ∧ Ins ends goes LL (LL.length - 1)
def HSh (sg : Nat) (ends : List Bool) (goes : List (List (Option Nat))) (d : D) : Prop := HNn ends goes d ∨ HRw sg ends goes d
def isLy (n : Nat) : D → Bool
  | .lst us => us.all (isS n)
  | _ => false
theorem isLy_inv {n : Nat} : ∀ {us : List D}, us.all (isLy n) = true → ∃ LL, us = lyD LL ∧ ∀ L ∈ LL, ∀ a ∈ L, a < n
  | [], _ => ⟨[], rfl, by simp⟩
  | u :: us, h => by
    rw [List.all_cons, Bool.and_eq_true] at h
    obtain ⟨LL, e, hL⟩ := isLy_inv h.2
    have h1 := h.1
    cases u with
    | lst ds =>
      obtain ⟨L, e2, hL2⟩ := isS_inv (show ds.all (isS n) = true from h1)
      refine ⟨L :: LL, by rw [e, e2]; rfl, fun X hX => ?_⟩
      rcases List.mem_cons.mp hX with z | z
      · rw [z]; exact hL2
      · exact hL X z
    | _ => simp [isLy] at h1
theorem isLy_ly {n : Nat} {LL : List (List Nat)} (h : ∀ L ∈ LL, ∀ a ∈ L, a < n) : (lyD LL).all (isLy n) = true := by
  unfold lyD
  rw [List.all_map, List.all_eq_true]
  intro L hL
  exact isS_nats (h L hL)
section
variable {sg : Nat} {ends : List Bool} {goes : List (List (Option Nat))} {C : AH} {P : D → AH → Prop}
theorem at_end (ends : List Bool) (s : Option Nat) (hs : inn ends.length s) {st : ASt} {e2 : AE'} (h2 : ∀ u (hu : u < ends.length), s = some u → ∀ R : D → AH → Prop, R (.bl ends[u]) C → e2 st C R) (k : P (.bl (letB ends s)) C) : kAndV e2 st P (.bl (!isNon (oD s))) C := by
  refine g_kAnd (fun h => ?_) (fun h => ?_)
  · cases s with
    | none => cases h
    | some u =>
      refine h2 u (hs u rfl) rfl _ ?_
      simpa [letB, List.getD, List.getElem?_eq_getElem (hs u rfl)] using k
  · cases s with
    | none => exact k
    | some u => cases h
theorem lets2_ok (M : Mach sg ends goes) {row : List Nat} (hr : ∀ n ∈ row, n < sg) (k : P (.bl (letB ends (runO goes (some 0) row))) C) : s_lets [machD ends goes, .lst (natsD row)] C P := by
  unfold s_lets a_lets
  walk_at "go"
  have h0 : inn ends.length (some 0) := fun t ht => by cases ht; exact M.pos
  refine gone_ok (s := some 0) M h0 hr ?_
  walk_at "go"
  refine at_end ends _ (M.run row h0 hr) (fun u hu e R hR => ?_) k
  walk_at "go"
  rw [e]
  exact get_end hu hR
theorem llets_ok (M : Mach sg ends goes) {row : List Nat} (hr : ∀ n ∈ row, n < sg) (k : P (.bl (letB ends (runO goes (some 0) row))) C) : s_law_lets [machD ends goes, .lst (natsD row)] C P := by
  unfold s_law_lets a_law_lets
  walk_at "go"
  have h0 : inn ends.length (some 0) := fun t ht => by cases ht; exact M.pos
  refine lgone_ok (s := some 0) M h0 hr ?_
  walk_at "go"
  refine at_end ends _ (M.run row h0 hr) (fun u hu e R hR => ?_) k
  walk_at "go"
  rw [e]
  exact get_end hu hR
theorem are_layers_ok (M : Mach sg ends goes) {d : D} {n : Nat} (h : okR d n = true) (hb : blk d ≤ 8000) (k : ∀ b, (b = true ↔ ∃ LL, Lyr ends.length d LL) → P (.bl b) C) : s_are_layers [machD ends goes, d] C P := by
  have no : (¬ ∃ LL, Lyr ends.length d LL) → P (.bl false) C := fun h => k false (by simpa using h)
  unfold s_are_layers a_are_layers
  walk_at "go"
  rcases kind_of_ok (C := C) h with ⟨us, rfl⟩ | ⟨t, h1, h2⟩
  rotate_left
  · refine g_ifT (fun K hK => ?_) ?_
    · walk_at "go"
      refine g_kIsi h1 ?_
      rw [h2]
      walk_at "go"
      exact hK
    walk_at "go"
    refine no fun ⟨LL, z⟩ => ?_
    have e := z.eq
    subst e
    cases h1
    cases h2
  obtain ⟨m, hm⟩ := okR_sub h
  have hlen : us.length ≤ 8000 := Nat.le_trans (blks_len us) hb
  have hbu : ∀ u ∈ us, blk u ≤ 8000 := fun u hu => Nat.le_trans (blks_mem hu) hb
  refine g_ifB (decide (us = [])) (fun K hK => ?_) (fun hp => ?_) (fun hp => ?_)
  · walk_at "go"
    rw [show isT "list" "list" = true from rfl]
    walk_at "go"
    have e : decide (((us.length : Nat) : Int) = 0) = decide (us = []) := by
      rw [Bool.eq_iff_iff, decide_eq_true_iff, decide_eq_true_iff]
      constructor
      · intro h; exact List.eq_nil_of_length_eq_zero (by omega)
      · intro h; rw [h]; rfl
    rw [e]
    exact hK
  · walk_at "go"
    have hp : us = [] := by simpa using hp
    subst hp
    refine no fun ⟨LL, z⟩ => ?_
    have e := z.eq
    have : LL = [] := by cases LL with | nil => rfl | cons a b => cases e
    exact z.ne this
  have hne : us ≠ [] := by simpa using hp
  walk_at "go"
  refine g_kForL (fun i st C' => ∃ x2 x3, C = C' ∧ (us.take i).all (isLy ends.length) = true ∧ st = [some (machD ends goes), some (.lst us), x2, x3]) ⟨_, _, rfl, rfl, rfl⟩ (fun i d st C' hi hw => ?_) (fun st C' hw => ?_)
  · clear hp
    obtain ⟨x2, x3, rfl, ha, rfl⟩ := hw
    have hdm := List.mem_of_getElem? hi
    have hd := hm d hdm
    have hdb := hbu d hdm
    have ht : us.take (i + 1) = us.take i ++ [d] := by rw [List.take_add_one, hi]; rfl
    refine g_ifB (!isLy ends.length d) (fun K hK => ?_) (fun hp => ?_) (fun hp => ?_)
    · walk_at "go"
      rcases kind_of_ok (C := C) hd with ⟨vs, rfl⟩ | ⟨t, h1, h2⟩
      rotate_left
      · have e : isLy ends.length d = false := by
          cases d <;> first | rfl | (cases h1; cases h2)
        rw [e] at hK
        refine g_kIsi h1 ?_
        rw [h2]
        walk_at "go"
        exact hK
      obtain ⟨m2, hm2⟩ := okR_sub hd
      have hvl : vs.length ≤ 8000 := Nat.le_trans (blks_len vs) hdb
      walk_at "go"
      rw [show isT "list" "list" = true from rfl]
      walk_at "go"
      refine g_kLcMap (fun d => .bl (isS ends.length d)) (by simp only [sizeLine]; omega) (fun u hu R hR => ?_) ?_
      · walk_at "go"
        refine whole_ok (hm2 u hu) ?_
        cases hi : isI u with
        | false =>
          refine g_kAnd (fun z => by first | (cases z; done) | (rw [hi] at z; cases z)) (fun _ => ?_)
          have : isS ends.length u = false := by cases u <;> first | rfl | cases hi
          rw [this] at hR
          exact hR
        | true =>
          obtain ⟨i, rfl⟩ : ∃ i, u = .int i := by cases u <;> first | exact ⟨_, rfl⟩ | cases hi
          refine g_kAnd (fun _ => ?_) (fun z => nomatch z)
          walk_at "go"
          refine g_kChain (fun z => ?_) (fun z => ?_)
          · walk_at "go"
            rw [List.length_map]
            have e : isS ends.length (.int i) = decide (i < (ends.length : Int)) := by simp only [isS]; rw [z, Bool.true_and]
            rw [e] at hR
            exact hR
          · have e : isS ends.length (.int i) = false := by simp only [isS]; rw [z, Bool.false_and]
            rw [e] at hR
            exact hR
      · walk_at "go"
        refine g_all (blsD_map _ _) ?_
        rw [all_id]
        walk_at "go"
        exact hK
    · walk_at "go"
      refine no fun ⟨LL, z⟩ => ?_
      have e := z.eq
      cases e
      have := List.all_eq_true.mp (isLy_ly z.lt) d hdm
      rw [this] at hp
      cases hp
    · walk_at "go"
      refine ⟨_, _, rfl, ?_, rfl⟩
      have hd' : isLy ends.length d = true := by simpa using hp
      rw [ht, List.all_append, ha, List.all_cons, hd']
      rfl
  · obtain ⟨x2, x3, rfl, ha, rfl⟩ := hw
    rw [List.take_length] at ha
    obtain ⟨LL, rfl, hLL⟩ := isLy_inv ha
    have hpos : 0 < LL.length := by
      cases LL with
      | nil => exact absurd rfl hne
      | cons a b => simp
    walk_at "go"
    refine g_ixL (d := .lst (natsD (LL.getD 0 []))) (atI_nat' (i := 0) (lyD_get hpos)) ?_
    walk_at "go"
    refine g_inNats (n := 0) ?_
    refine k _ ?_
    rw [decide_eq_true_iff]
    constructor
    · intro z
      exact ⟨LL, rfl, List.length_pos_iff.mp hpos, hLL, z⟩
    · intro ⟨LM, z⟩
      have := lyD_inj (D.lst.inj z.eq)
      rw [this]
      exact z.st
theorem take_flat {LL : List (List Nat)} {i : Nat} (h : i < LL.length) (a : Nat) : a ∈ (LL.take (i + 1)).flatten ↔ a ∈ (LL.take i).flatten ∨ a ∈ LL.getD i [] := by
  rw [List.take_add_one, List.getElem?_eq_getElem h, List.flatten_append, List.mem_append, List.getD_eq_getElem?_getD, List.getElem?_eq_getElem h]
  simp
theorem getD_mem {LL : List (List Nat)} {i : Nat} (h : i < LL.length) : LL.getD i [] ∈ LL := by
  rw [List.getD_eq_getElem?_getD, List.getElem?_eq_getElem h]
  exact List.getElem_mem h
theorem shut_in_ok (M : Mach sg ends goes) (hs12 : sg ≤ 12) {LL : List (List Nat)} (h0 : 0 < LL.length) (hlt : ∀ L ∈ LL, ∀ a ∈ L, a < ends.length) (hbl : ∀ L ∈ LL, L.length ≤ 8000) (hll : LL.length ≤ 8000) {m : Nat} (hm : m ≤ LL.length) (k : ∀ C' b, AL.Keep C C' → (b = true ↔ Ins ends goes LL m) → P (.bl b) C') : s_shut_in [machD ends goes, .lst (lyD LL), .int ((m : Int) - 1)] C P := by
  have hmo := M.most
  have hle := M.len
  unfold s_shut_in a_shut_in
  walk_at "go"
  refine g_ixL (d := .lst (natsD (LL.getD 0 []))) (atI_nat' (i := 0) (lyD_get h0)) ?_
  walk_at "go"
  have hm0 := getD_mem h0
  have hl0 := hbl _ hm0
  refine g_lcG (xs := LL.getD 0 []) (g := fun (a : Nat) => D.int (a : Int)) (f := fun (a : Nat) => D.tup [.int (a : Int), .bl true]) (by simp only [sizeLine]; omega) (fun a _ R hR => ?_) ?_
  · walk_at "go"
    exact hR
  walk_at "go"
  have e1 : ((LL.getD 0 []).map fun (a : Nat) => D.tup [.int (a : Int), .bl true]) = (((LL.getD 0 []).map fun s => (nk s, D.bl true)).map fun e => .tup [keyD e.1, e.2]) := by
    rw [List.map_map]
    rfl
  rw [e1]
  refine g_dictPM fun q hq => ?_
  have hKy := Ky.merge (LL.getD 0 []) (.bl true) Ky.nil
  have hnd := nodup_foldN (LL.getD 0 []) (L := []) List.nodup_nil
  have hmem : ∀ a, a ∈ (LL.getD 0 []).foldl addN [] ↔ a ∈ (LL.take 1).flatten := fun a => by
    rw [mem_foldN, take_flat h0]
    simp
  generalize (LL.getD 0 []).foldl addN [] = KL at hKy hnd hmem
  generalize mergeD [] ((LL.getD 0 []).map fun s => (nk s, D.bl true)) = es at hKy
  have hK0 := (Keep.refl C).put (c := .dk es) hq
  have hC0 : (put C q (.dk es)) q = some (.dk es) := put_same
  generalize put C q (.dk es) = C0 at hK0 hC0
  walk_at "go"
  rw [show ((m : Int) - 1 + 1).toNat = m by omega]
  refine g_kForR0 (fun i st C' => ∃ (es : List (Key × D)) (KL : List Nat) (x3 x5 x6 : Option D), AL.Keep C C' ∧ C' q = some (.dk es) ∧ Ky es KL ∧ KL.Nodup ∧ (∀ a, a ∈ KL ↔ a ∈ (LL.take (i + 1)).flatten) ∧ Ins ends goes LL i ∧
    st = [some (machD ends goes), some (.lst (lyD LL)), some (.int ((m : Int) - 1)), x3, some (.ce q), x5, x6]) ⟨es, KL, _, _, _, hK0, hC0, hKy, hnd, hmem, fun j hj => absurd hj (Nat.not_lt_zero _), rfl⟩ (fun i st C' hi hw => ?_) (fun st C' hw => ?_)
  · obtain ⟨es, KL, x3, x5, x6, hK, hCq, hKy, hnd, hmem, hIn, rfl⟩ := hw
    have hil : i < LL.length := by omega
    walk_at "go"
    refine g_ifJ (fun st C' => ∃ (es : List (Key × D)) (KL : List Nat) (x3 : Option D), AL.Keep C C' ∧ C' q = some (.dk es) ∧ Ky es KL ∧ KL.Nodup ∧ (∀ a, a ∈ KL ↔ a ∈ (LL.take (i + 2)).flatten) ∧
      st = [some (machD ends goes), some (.lst (lyD LL)), some (.int ((m : Int) - 1)), x3, some (.ce q), some (.int (i : Nat)), x6]) (fun N hN => ?_) (fun st C' hw => ?_)
    · refine g_ifS ?_
      walk_at "go"
      rw [lyD_len]
      refine g_iteD (fun hlt1 => ?_) (fun hlt1 => ?_)
      · have hil2 : i + 1 < LL.length := by omega
        walk_at "go"
        rw [show (i : Int) + 1 = ((i + 1 : Nat) : Int) by omega]
        refine g_ixL (d := .lst (natsD (LL.getD (i + 1) []))) (atI_nat' (lyD_get hil2)) ?_
        walk_at "go"
        have hlx := hlt _ (getD_mem hil2)
        have htf := fun a => take_flat (i := i + 1) hil2 a
        generalize LL.getD (i + 1) [] = X at hlx htf
        refine g_kForL (fun j st C' => ∃ (es : List (Key × D)) (KL : List Nat) (x3 : Option D), AL.Keep C C' ∧ C' q = some (.dk es) ∧ Ky es KL ∧ KL.Nodup ∧ (∀ a, a ∈ KL ↔ a ∈ (LL.take (i + 1)).flatten ∨ a ∈ X.take j) ∧
          st = [some (machD ends goes), some (.lst (lyD LL)), some (.int ((m : Int) - 1)), x3, some (.ce q), some (.int (i : Nat)), x6]) ⟨es, KL, _, hK, hCq, hKy, hnd, fun a => by rw [hmem]; simp, rfl⟩ (fun j d st C' hj hw => ?_) (fun st C' hw => ?_)
        · obtain ⟨es, KL, x3, hK, hCq, hKy, hnd, hmem, rfl⟩ := hw
          obtain ⟨hjl, rfl⟩ := natsD_get hj
          have hXj : X[j]? = some X[j] := List.getElem?_eq_getElem hjl
          have htk : X.take (j + 1) = X.take j ++ [X[j]] := by rw [List.take_add_one, hXj]; rfl
          have hKl : KL.length ≤ ends.length := nodup_bound hnd fun a ha => by
            rcases (hmem a).mp ha with z | z
            · obtain ⟨L, hL, haL⟩ := List.mem_flatten.mp z
              exact hlt L (List.mem_of_mem_take hL) a haL
            · exact hlx a (List.mem_of_mem_take z)
          rw [htk]
          generalize X[j] = t
          walk_at "go"
          refine g_putKv (n := t) rfl rfl hCq hKy (by omega) fun es' hKy' => ?_
          walk_at "go"
          refine ⟨es', addN KL t, _, hK.put hq, put_same, hKy', nodup_addN hnd, fun a => ?_, rfl⟩
          rw [mem_addN, hmem, List.mem_append, List.mem_singleton, or_assoc]
        · obtain ⟨es, KL, x3, hK, hCq, hKy, hnd, hmem, rfl⟩ := hw
          rw [natsD_len, List.take_length] at hmem
          exact hN _ _ ⟨es, KL, _, hK, hCq, hKy, hnd, fun a => by rw [hmem, htf], rfl⟩
      · walk_at "go"
        refine hN _ _ ⟨es, KL, _, hK, hCq, hKy, hnd, fun a => ?_, rfl⟩
        rw [hmem, List.take_of_length_le (by omega), List.take_of_length_le (by omega)]
    obtain ⟨es, KL, x3, hK, hCq, hKy, hnd, hmem, rfl⟩ := hw
    walk_at "go"
    refine g_ixL (d := .lst (natsD (LL.getD i []))) (atI_nat' (lyD_get hil)) ?_
    walk_at "go"
    have hlx := hlt _ (getD_mem hil)
    have hIn1 : (∀ s ∈ LL.getD i [], Leads ends goes (LL.take (i + 2)).flatten s) → Ins ends goes LL (i + 1) := fun h j hj s hs => by
      by_cases e : j = i
      · subst e; exact h s hs
      · exact hIn j (by omega) s hs
    have hno : ∀ s, s ∈ LL.getD i [] → ¬ Leads ends goes (LL.take (i + 2)).flatten s → ¬ Ins ends goes LL m := fun s hs h z => h (z i hi s hs)
    generalize LL.getD i [] = X at hlx hIn1 hno
    refine g_kForL (fun j st C' => ∃ (x3 x6 : Option D), AL.Keep C C' ∧ C' q = some (.dk es) ∧ (∀ s ∈ X.take j, Leads ends goes (LL.take (i + 2)).flatten s) ∧
      st = [some (machD ends goes), some (.lst (lyD LL)), some (.int ((m : Int) - 1)), x3, some (.ce q), some (.int (i : Nat)), x6]) ⟨_, _, hK, hCq, by simp, rfl⟩ (fun j d st C' hj hw => ?_) (fun st C' hw => ?_)
    · obtain ⟨x3, x6, hK, hCq, hld, rfl⟩ := hw
      obtain ⟨hjl, rfl⟩ := natsD_get hj
      have hXj : X[j]? = some X[j] := List.getElem?_eq_getElem hjl
      have htk : X.take (j + 1) = X.take j ++ [X[j]] := by rw [List.take_add_one, hXj]; rfl
      have hsX : X[j] ∈ X := List.getElem_mem hjl
      rw [htk]
      generalize X[j] = s at hsX
      have hs := hlx s hsX
      have hsg : s < goes.length := by omega
      have hr : goes[s]? = some goes[s] := List.getElem?_eq_getElem hsg
      have hrl : goes[s].length = sg := M.row _ (List.getElem_mem hsg)
      have he : ends.getD s false = ends[s] := by simp [List.getD, List.getElem?_eq_getElem hs]
      have hlr : (goes[s].all fun o => match o with | none => true | some b => decide (b ∈ (LL.take (i + 2)).flatten)) = true ↔ ∀ b, AL.Fw goes s b → b ∈ (LL.take (i + 2)).flatten := leads_row (ends := ends) (L := (LL.take (i + 2)).flatten) hr
      refine g_ifB (ends[s] || !(goes[s].all fun o => match o with | none => true | some b => decide (b ∈ (LL.take (i + 2)).flatten))) (fun K hK => ?_) (fun hp => ?_) (fun hp => ?_)
      · walk_at "go"
        refine get_end hs ?_
        refine g_kTruB ?_
        refine g_ite (fun hb => ?_) (fun hb => ?_)
        · rw [hb] at hK
          exact hK
        rw [hb, Bool.false_or] at hK
        walk_at "go"
        refine get_goC hsg ?_
        walk_at "go"
        refine g_lcG (xs := goes[s]) (g := oD) (f := fun o => D.bl (match o with | none => true | some b => decide (b ∈ (LL.take (i + 2)).flatten))) (by rw [hrl]; simp only [sizeLine]; omega) (fun o _ R hR => ?_) ?_
        · walk_at "go"
          cases o with
          | none =>
            refine g_kOr (fun _ => hR) (fun z => nomatch z)
          | some b =>
            refine g_kOr (fun z => nomatch z) (fun _ => ?_)
            refine g_inK ?_
            walk_at "go"
            refine g_kInK (es := es) (k := nk b) (asK_ce hCq) rfl ?_
            rw [if_neg Bool.false_ne_true, hKy.val b]
            have e : decide (b ∈ KL) = decide (b ∈ (LL.take (i + 2)).flatten) := by rw [Bool.eq_iff_iff, decide_eq_true_iff, decide_eq_true_iff]; exact hmem b
            rw [e]
            exact hR
        · walk_at "go"
          refine g_all (blsD_map _ _) ?_
          rw [all_id]
          walk_at "go"
          exact hK
      · walk_at "go"
        refine k _ false hK ⟨(fun z => nomatch z), fun z => absurd z (hno s hsX fun ⟨g1, g2⟩ => ?_)⟩
        rw [← he, g1, Bool.false_or, Bool.not_eq_true'] at hp
        have g3 := hlr.mpr g2
        rw [hp] at g3
        cases g3
      · walk_at "go"
        refine ⟨_, _, hK, hCq, fun t ht => ?_, rfl⟩
        rcases List.mem_append.mp ht with z | z
        · exact hld t z
        · rw [List.mem_singleton.mp z]
          rw [Bool.or_eq_false_iff] at hp
          exact ⟨by rw [he]; exact hp.1, hlr.mp (by simpa using hp.2)⟩
    · obtain ⟨x3, x6, hK, hCq, hld, rfl⟩ := hw
      rw [natsD_len, List.take_length] at hld
      exact ⟨es, KL, _, _, _, hK, hCq, hKy, hnd, hmem, hIn1 hld, rfl⟩
  · obtain ⟨es, KL, x3, x5, x6, hK, hCq, hKy, hnd, hmem, hIn, rfl⟩ := hw
    walk_at "go"
    exact k _ true hK ⟨fun _ => hIn, fun _ => rfl⟩
end
end A_k33
namespace A_k33
open PySem L2 AL
theorem th_sub {us : List D} {n : Nat} (h : okR (.tup us) n = true) (hb : blk (.tup us) ≤ 8000) : ∃ m, ∀ u ∈ us, okR u m = true ∧ blk u ≤ 8000 := by
  obtain ⟨m, hm⟩ := okR_subT h
  exact ⟨m, fun u hu => ⟨hm u hu, Nat.le_trans (blks_mem hu) hb⟩⟩
theorem flat_len : ∀ LL : List (List Nat), LL.flatten.length ≤ blks (lyD LL)
  | [] => Nat.zero_le _
  | L :: LL => by
    have h1 := flat_len LL
    have h2 := blks_len (natsD L)
    rw [natsD_len] at h2
    rw [List.flatten_cons, List.length_append]
    show _ ≤ blks (.lst (natsD L) :: lyD LL)
    simp only [blks, blk]
    omega
structure Small (LL : List (List Nat)) : Prop where
  a : ∀ L ∈ LL, L.length ≤ 8000
  b : LL.length ≤ 8000
  c : LL.flatten.length ≤ 8000
theorem small {LL : List (List Nat)} (h : blk (.lst (lyD LL)) ≤ 8000) : Small LL := by
  refine ⟨fun L hL => ?_, ?_, Nat.le_trans (flat_len LL) h⟩
  · have h1 : blk (.lst (natsD L)) ≤ blks (lyD LL) := blks_mem (List.mem_map.mpr ⟨L, hL, rfl⟩)
    have h2 := blks_len (natsD L)
    rw [natsD_len] at h2
    exact Nat.le_trans h2 (Nat.le_trans h1 h)
  · have := blks_len (lyD LL)
    rw [lyD_len] at this
    exact Nat.le_trans this h
section
variable {sg : Nat} {ends : List Bool} {goes : List (List (Option Nat))} {C : AH} {P : D → AH → Prop}
theorem HSh.none_iff {b : D} : HSh sg ends goes (.tup [.str "none", b]) ↔ ∃ LL, Lyr ends.length b LL ∧ Ins ends goes LL LL.length := by
  constructor
  · rintro (⟨x, LL, e, h1, h2⟩ | ⟨y, R, LL, e, _⟩)
    · cases e; exact ⟨LL, h1, h2⟩
    · simp at e
  · rintro ⟨LL, h1, h2⟩
    exact .inl ⟨b, LL, rfl, h1, h2⟩
theorem HSh.row_iff {b c : D} : HSh sg ends goes (.tup [.str "row", b, c]) ↔ ∃ R LL, b = .lst (natsD R) ∧ Lyr ends.length c LL ∧ (∀ a ∈ R, a < sg) ∧ R.length + 1 = LL.length ∧ letB ends (runO goes (some 0) R) = true ∧ Ins ends goes LL (LL.length - 1) := by
  constructor
  · rintro (⟨x, LL, e, _⟩ | ⟨y, R, LL, e, h⟩)
    · simp at e
    · cases e; exact ⟨R, LL, rfl, h⟩
  · rintro ⟨R, LL, rfl, h⟩
    exact .inr ⟨c, R, LL, rfl, h⟩
theorem HSh.shape {d : D} (h : HSh sg ends goes d) : (∃ b, d = .tup [.str "none", b]) ∨ ∃ b c, d = .tup [.str "row", b, c] := by
  rcases h with ⟨x, LL, e, _⟩ | ⟨y, R, LL, e, _⟩
  · exact .inl ⟨_, e⟩
  · exact .inr ⟨_, _, e⟩
theorem holds_ok (M : Mach sg ends goes) (hs12 : sg ≤ 12) {d : D} (hT : Th d) (k : ∀ C' b, AL.Keep C C' → (b = true ↔ HSh sg ends goes d) → P (.bl b) C') : s_holds_shortest [machD ends goes, d] C P := by
  obtain ⟨h, hb⟩ := hT
  have no : (¬ HSh sg ends goes d) → P (.bl false) C := fun h => k _ false (Keep.refl _) (by simpa using h)
  unfold s_holds_shortest a_holds_shortest
  walk_at "go"
  rcases kind_tup (C := C) h with ⟨us, rfl⟩ | ⟨t, h1, h2⟩
  rotate_left
  · refine g_ifT (fun K hK => ?_) ?_
    · walk_at "go"
      refine g_kIsi h1 ?_
      rw [h2]
      walk_at "go"
      exact hK
    walk_at "go"
    refine no fun z => ?_
    rcases z.shape with ⟨b, e⟩ | ⟨b, c, e⟩ <;> (subst e; cases h1; cases h2)
  obtain ⟨m, hm⟩ := th_sub h hb
  refine g_ifS ?_
  walk_at "go"
  rw [show isT "tuple" "tuple" = true from rfl]
  walk_at "go"
  match us, no, k, hm with
  | [], no, k, hm =>
    refine g_iteD (fun _ => ?_) (fun h => absurd (by simp) h)
    walk_at "go"
    refine no fun z => ?_
    rcases z.shape with ⟨b, e⟩ | ⟨b, c, e⟩ <;> cases e
  | [a], no, k, hm =>
    refine g_iteD (fun _ => ?_) (fun h => absurd (by simp) h)
    walk_at "go"
    refine no fun z => ?_
    rcases z.shape with ⟨b, e⟩ | ⟨b, c, e⟩ <;> cases e
  | a :: b :: us, no, k, hm =>
    refine g_iteD (fun h => absurd h (by simp only [List.length_cons]; omega)) (fun _ => ?_)
    walk_at "go"
    rcases kind_str (C := C) (hm a (by simp)).1 with ⟨w, rfl⟩ | ⟨t, h1, h2⟩
    rotate_left
    · refine g_kIsi h1 ?_
      rw [h2]
      walk_at "go"
      refine no fun z => ?_
      rcases z.shape with ⟨b, e⟩ | ⟨b, c, e⟩ <;> (cases e; cases h1; cases h2)
    have hbm := hm b (by simp)
    walk_at "go"
    rw [show isT "str" "str" = true from rfl]
    walk_at "go"
    refine g_ifB (decide (w = "none") && decide (us = [])) (fun K hK => ?_) (fun hp => ?_) (fun hp => ?_)
    · walk_at "go"
      refine g_iteD (fun hw => ?_) (fun hw => ?_)
      · rw [decide_eq_true hw, Bool.true_and] at hK
        walk_at "go"
        have e : decide ((((D.str w :: b :: us).length : Nat) : Int) = 2) = decide (us = []) := by
          rw [Bool.eq_iff_iff, decide_eq_true_iff, decide_eq_true_iff]
          simp only [List.length_cons]
          constructor
          · intro h; exact List.eq_nil_of_length_eq_zero (by omega)
          · intro h; rw [h]; rfl
        rw [e]
        exact hK
      · rw [decide_eq_false hw, Bool.false_and] at hK
        exact hK
    · have hp : w = "none" ∧ us = [] := by simpa using hp
      obtain ⟨rfl, rfl⟩ := hp
      walk_at "go"
      refine are_layers_ok M hbm.1 hbm.2 fun r hr => ?_
      cases r with
      | false =>
        refine g_kAnd (fun z => nomatch z) (fun _ => no fun z => ?_)
        obtain ⟨LL, h1, _⟩ := HSh.none_iff.mp z
        exact absurd (hr.mpr ⟨LL, h1⟩) (by simp)
      | true =>
        obtain ⟨LL, hL⟩ := hr.mp rfl
        have eb := hL.eq
        subst eb
        have hsm := small hbm.2
        have hpos := hL.pos
        refine g_kAnd (fun _ => ?_) (fun z => nomatch z)
        walk_at "go"
        rw [lyD_len]
        refine shut_in_ok M hs12 hpos hL.lt hsm.a hsm.b (Nat.le_refl _) fun C' b hK hb => ?_
        refine k _ b hK (hb.trans ⟨fun z => HSh.none_iff.mpr ⟨LL, hL, z⟩, fun z => ?_⟩)
        obtain ⟨LM, h1, h2⟩ := HSh.none_iff.mp z
        have := lyD_inj (D.lst.inj h1.eq)
        subst this
        exact h2
    walk_at "go"
    have no2 : (w = "row" → ∀ c, us = [c] → ¬ HSh sg ends goes (.tup [.str "row", b, c])) → P (.bl false) C := fun h3 => no fun z => by
      rcases z.shape with ⟨b, e⟩ | ⟨b, c, e⟩
      · cases e; simp at hp
      · cases e; exact h3 rfl _ rfl z
    refine g_ifS ?_
    walk_at "go"
    by_cases hw : w = "row"
    rotate_left
    · rw [decide_eq_false hw]
      walk_at "go"
      exact no2 fun z => absurd z hw
    subst hw
    rw [decide_eq_true rfl]
    walk_at "go"
    by_cases hl : us.length = 1
    rotate_left
    · refine g_ite (fun _ => ?_) (fun z => absurd z (by simp only [List.length_cons]; simp; omega))
      walk_at "go"
      exact no2 fun _ c e => absurd (by rw [e]; rfl) hl
    obtain ⟨c, rfl⟩ : ∃ c, us = [c] := by
      match us, hl with
      | [c], _ => exact ⟨c, rfl⟩
    refine g_ite (fun z => absurd z (by simp)) (fun _ => ?_)
    have hcm := hm c (by simp)
    have no3 : ¬ HSh sg ends goes (.tup [.str "row", b, c]) → P (.bl false) C := fun h => no2 fun _ c' e => by cases e; exact h
    walk_at "go"
    refine are_layers_ok M hcm.1 hcm.2 fun r hr => ?_
    cases r with
    | false =>
      walk_at "go"
      refine no3 fun z => ?_
      obtain ⟨R, LL, _, h1, _⟩ := HSh.row_iff.mp z
      exact absurd (hr.mpr ⟨LL, h1⟩) (by simp)
    | true =>
    obtain ⟨LL, hL⟩ := hr.mp rfl
    have eb := hL.eq
    subst eb
    have hsm := small hcm.2
    have hpos := hL.pos
    have uq : ∀ {LM}, Lyr ends.length (.lst (lyD LL)) LM → LM = LL := fun h => (lyD_inj (D.lst.inj h.eq)).symm
    walk_at "go"
    refine g_ifS ?_
    walk_at "go"
    refine is_row_ok M hbm.1 hbm.2 fun r hr => ?_
    cases r with
    | false =>
      walk_at "go"
      refine no3 fun z => ?_
      obtain ⟨R, LM, e, h1, h2, _⟩ := HSh.row_iff.mp z
      exact absurd (hr.mpr ⟨R, e, h2⟩) (by simp)
    | true =>
    obtain ⟨R, rfl, hR⟩ := hr.mp rfl
    have uqR : ∀ {R2}, D.lst (natsD R) = .lst (natsD R2) → R2 = R := fun h => (natsD_inj (D.lst.inj h)).symm
    walk_at "go"
    rw [natsD_len, lyD_len]
    refine g_ite (fun hne => ?_) (fun hne => ?_)
    · walk_at "go"
      refine no3 fun z => ?_
      obtain ⟨R2, LM, e, h1, h2, h3, _⟩ := HSh.row_iff.mp z
      rw [uqR e, uq h1] at h3
      have : decide ((R.length : Int) + 1 = (LL.length : Int)) = true := decide_eq_true (by omega)
      rw [this] at hne
      cases hne
    have hRl : R.length + 1 = LL.length := by
      have : (R.length : Int) + 1 = (LL.length : Int) := by simpa using hne
      omega
    walk_at "go"
    refine lets2_ok M hR ?_
    cases hlb : letB ends (runO goes (some 0) R) with
    | false =>
      walk_at "go"
      refine no3 fun z => ?_
      obtain ⟨R2, LM, e, h1, h2, h3, h4, _⟩ := HSh.row_iff.mp z
      rw [uqR e, hlb] at h4
      cases h4
    | true =>
    walk_at "go"
    rw [lyD_len]
    rw [show (LL.length : Int) - 2 = ((LL.length - 1 : Nat) : Int) - 1 by omega]
    refine shut_in_ok M hs12 hpos hL.lt hsm.a hsm.b (by omega) fun C' b hK hb => ?_
    refine k _ b hK (hb.trans ⟨fun z => HSh.row_iff.mpr ⟨R, LL, rfl, hL, hR, hRl, hlb, z⟩, fun z => ?_⟩)
    obtain ⟨R2, LM, e, h1, h2, h3, h4, h5⟩ := HSh.row_iff.mp z
    rw [uq h1] at h5
    exact h5
theorem nats_flat (LL : List (List Nat)) : (LL.map natsD).flatten = natsD LL.flatten := by
  induction LL with
  | nil => rfl
  | cons L LL ih => rw [List.map_cons, List.flatten_cons, List.flatten_cons, natsD_app, ih]
theorem sum_ly {LL : List (List Nat)} (hl : LL.flatten.length ≤ 10000) (k : P (.lst (natsD LL.flatten)) C) : aSumL [.lst (lyD LL), .lst []] C P := by
  have e : lyD LL = (LL.map natsD).map D.lst := by unfold lyD; rw [List.map_map]; rfl
  rw [e]
  refine g_sumL (mapLs_lst _) ?_ ?_
  · rw [nats_flat, natsD_len]
    simp only [sizeLine]
    omega
  · rw [nats_flat]; exact k
theorem take_flat_len (LL : List (List Nat)) (i : Nat) : (LL.take i).flatten.length ≤ LL.flatten.length := by
  conv => rhs; rw [← List.take_append_drop i LL]
  rw [List.flatten_append, List.length_append]
  omega
theorem inside_ok (M : Mach sg ends goes) (hs12 : sg ≤ 12) {LL : List (List Nat)} (hlt : ∀ L ∈ LL, ∀ a ∈ L, a < ends.length) (hsm : Small LL) {m : Nat} (hm : m ≤ LL.length) (k : ∀ b, (b = true ↔ Ins ends goes LL m) → P (.bl b) C) : s_law_inside [machD ends goes, .lst (lyD LL), .int ((m : Int) - 1)] C P := by
  have hmo := M.most
  have hll := hsm.b
  unfold s_law_inside a_law_inside
  walk_at "go"
  rw [show ((m : Int) - 1 + 1).toNat = m by omega]
  refine g_kForR0 (fun i st C' => ∃ (x3 x4 x5 : Option D), C' = C ∧ Ins ends goes LL i ∧
    st = [some (machD ends goes), some (.lst (lyD LL)), some (.int ((m : Int) - 1)), x3, x4, x5]) ⟨_, _, _, rfl, fun j hj => absurd hj (Nat.not_lt_zero _), rfl⟩ (fun i st C' hi hw => ?_) (fun st C' hw => ?_)
  · obtain ⟨x3, x4, x5, rfl, hIn, rfl⟩ := hw
    have hil : i < LL.length := by omega
    walk_at "go"
    rw [show (i : Int) + 2 = ((i + 2 : Nat) : Int) by omega]
    refine g_cutTake (j := i + 2) ?_
    walk_at "go"
    rw [show (lyD LL).take (i + 2) = lyD (LL.take (i + 2)) by unfold lyD; rw [List.map_take]]
    refine sum_ly (by have := take_flat_len LL (i + 2); have := hsm.c; omega) ?_
    walk_at "go"
    refine g_ixL (d := .lst (natsD (LL.getD i []))) (atI_nat' (lyD_get hil)) ?_
    walk_at "go"
    have hlx := hlt _ (getD_mem hil)
    have hIn1 : (∀ s ∈ LL.getD i [], Leads ends goes (LL.take (i + 2)).flatten s) → Ins ends goes LL (i + 1) := fun h j hj s hs => by
      by_cases e : j = i
      · subst e; exact h s hs
      · exact hIn j (by omega) s hs
    have hno : ∀ s, s ∈ LL.getD i [] → ¬ Leads ends goes (LL.take (i + 2)).flatten s → ¬ Ins ends goes LL m := fun s hs h z => h (z i hi s hs)
    generalize LL.getD i [] = X at hlx hIn1 hno
    refine g_kForL (fun j st C2 => ∃ (x5 : Option D), C2 = C' ∧ (∀ s ∈ X.take j, Leads ends goes (LL.take (i + 2)).flatten s) ∧
      st = [some (machD ends goes), some (.lst (lyD LL)), some (.int ((m : Int) - 1)), some (.int (i : Nat)), some (.lst (natsD (LL.take (i + 2)).flatten)), x5]) ⟨_, rfl, by simp, rfl⟩ (fun j d st C2 hj hw => ?_) (fun st C2 hw => ?_)
    · obtain ⟨x5, rfl, hld, rfl⟩ := hw
      obtain ⟨hjl, rfl⟩ := natsD_get hj
      have hXj : X[j]? = some X[j] := List.getElem?_eq_getElem hjl
      have htk : X.take (j + 1) = X.take j ++ [X[j]] := by rw [List.take_add_one, hXj]; rfl
      have hsX : X[j] ∈ X := List.getElem_mem hjl
      rw [htk]
      generalize X[j] = s at hsX
      have hs := hlx s hsX
      refine g_ifS ?_
      walk_at "go"
      refine law_leads_ok M hs12 hs ?_
      cases hb : leadsB ends goes (LL.take (i + 2)).flatten s with
      | true =>
        walk_at "go"
        refine ⟨_, rfl, fun t ht => ?_, rfl⟩
        rcases List.mem_append.mp ht with z | z
        · exact hld t z
        · rw [List.mem_singleton.mp z]; exact leadsB_iff.mp hb
      | false =>
        walk_at "go"
        refine k false ⟨(fun z => nomatch z), fun z => absurd z (hno s hsX fun y => ?_)⟩
        rw [leadsB_iff.mpr y] at hb
        cases hb
    · obtain ⟨x5, rfl, hld, rfl⟩ := hw
      rw [natsD_len, List.take_length] at hld
      exact ⟨_, _, _, rfl, hIn1 hld, rfl⟩
  · obtain ⟨x3, x4, x5, rfl, hIn, rfl⟩ := hw
    walk_at "go"
    exact k true ⟨fun _ => hIn, fun _ => rfl⟩
end
end A_k33
namespace A_k33
open PySem L2 AL
theorem g_nin23 {C : AH} {P : D → AH → Prop} {n : Nat} (h : P (.bl (!decide (n ∈ [2, 3]))) C) : aNinL (.int (n : Int)) (.tup [.int 2, .int 3]) C P := by
  show (match toV (.int (n : Int)), (some (natsD [2, 3])).bind toVs with | some u, some us => P (.bl (if true then !inV u us else inV u us)) C | _, _ => False)
  rw [show (some (natsD [2, 3])).bind toVs = toVs (natsD [2, 3]) from rfl, toVs_nats]
  show P (.bl (!inV (.int (n : Int)) _)) C
  rw [inV_nats]
  exact h
section
variable {sg : Nat} {ends : List Bool} {goes : List (List (Option Nat))} {C : AH} {P : D → AH → Prop}
theorem isLy_iff {n : Nat} {u : D} : isLy n u = true ↔ ∃ L, u = .lst (natsD L) ∧ ∀ a ∈ L, a < n := by
  constructor
  · intro h
    obtain ⟨LL, e, hL⟩ := isLy_inv (us := [u]) (n := n) (by simp [h])
    match LL, e with
    | [L], e => exact ⟨L, by cases e; rfl, hL L (by simp)⟩
    | [], e => cases e
    | a :: b :: LL, e => cases e
  · rintro ⟨L, rfl, hL⟩
    exact isS_nats hL
theorem law_holds_ok (M : Mach sg ends goes) (hs12 : sg ≤ 12) {d : D} (hT : Th d) (k : ∀ b, (b = true ↔ HSh sg ends goes d) → P (.bl b) C) : s_law_holds [machD ends goes, d] C P := by
  have hpos := M.pos
  have hle := M.len
  obtain ⟨h, hb⟩ := hT
  have no : (¬ HSh sg ends goes d) → P (.bl false) C := fun h => k false (by simpa using h)
  unfold s_law_holds a_law_holds
  walk_at "go"
  rcases kind_tup (C := C) h with ⟨us, rfl⟩ | ⟨t, h1, h2⟩
  rotate_left
  · refine g_ifT (fun K hK => ?_) ?_
    · walk_at "go"
      refine g_kIsi h1 ?_
      rw [h2]
      walk_at "go"
      exact hK
    walk_at "go"
    refine no fun z => ?_
    rcases z.shape with ⟨b, e⟩ | ⟨b, c, e⟩ <;> (subst e; cases h1; cases h2)
  obtain ⟨m, hm⟩ := th_sub h hb
  refine g_ifS ?_
  walk_at "go"
  rw [show isT "tuple" "tuple" = true from rfl]
  walk_at "go"
  refine g_nin23 ?_
  walk_at "go"
  by_cases hl : us.length ∈ [2, 3]
  rotate_left
  · rw [decide_eq_false hl]
    walk_at "go"
    refine no fun z => ?_
    rcases z.shape with ⟨b, e⟩ | ⟨b, c, e⟩ <;> (cases e; exact hl (by simp))
  rw [decide_eq_true hl]
  walk_at "go"
  have hl2 : us.length = 2 ∨ us.length = 3 := by simpa using hl
  obtain ⟨a, us, rfl⟩ : ∃ a vs, us = a :: vs := by
    cases us with
    | nil => simp at hl2
    | cons a vs => exact ⟨a, vs, rfl⟩
  walk_at "go"
  rcases kind_str (C := C) (hm a (by simp)).1 with ⟨w, rfl⟩ | ⟨t, h1, h2⟩
  rotate_left
  · refine g_kIsi h1 ?_
    rw [h2]
    walk_at "go"
    refine no fun z => ?_
    rcases z.shape with ⟨b, e⟩ | ⟨b, c, e⟩ <;> (cases e; cases h1; cases h2)
  walk_at "go"
  rw [show isT "str" "str" = true from rfl]
  walk_at "go"
  obtain ⟨c, ws, hus⟩ : ∃ c ws, us = ws ++ [c] := by
    cases us with
    | nil => simp at hl2
    | cons b vs => exact ⟨_, _, (List.dropLast_concat_getLast (l := b :: vs) (by simp)).symm⟩
  have hlast : atI (D.str w :: us) (-1) = some c := by
    rw [hus]
    unfold atI ixN
    rw [if_neg (by omega), if_pos (by simp; omega)]
    show (D.str w :: (ws ++ [c]))[(-1 + ((D.str w :: (ws ++ [c])).length : Int)).toNat]? = some c
    rw [show (-1 + ((D.str w :: (ws ++ [c])).length : Int)).toNat = ws.length + 1 by simp only [List.length_cons, List.length_append, List.length_nil]; omega]
    rw [List.getElem?_cons_succ, List.getElem?_append_right (Nat.le_refl _)]
    simp
  refine g_ixT (d := c) hlast ?_
  walk_at "go"
  have hcm := hm c (by rw [hus]; simp)
  have nol : (¬ ∃ LL, Lyr ends.length c LL) → P (.bl false) C := fun h => no fun z => by
    rcases z.shape with ⟨b, e⟩ | ⟨b, c', e⟩
    · have e2 := D.tup.inj e
      injection e2 with e3 e4
      rw [hus] at e4
      have e5 : ws = [] ∧ c = b := by
        cases ws with
        | nil => exact ⟨rfl, by simpa using e4⟩
        | cons x y => simp at e4
      obtain ⟨rfl, rfl⟩ := e5
      rw [e] at z
      obtain ⟨LL, h1, _⟩ := HSh.none_iff.mp z
      exact h ⟨LL, h1⟩
    · have e2 := D.tup.inj e
      injection e2 with e3 e4
      rw [hus] at e4
      have e5 : ws = [b] ∧ c = c' := by
        cases ws with
        | nil => simp at e4
        | cons x y =>
          cases y with
          | nil => simpa using e4
          | cons x2 y => simp at e4
      obtain ⟨rfl, rfl⟩ := e5
      rw [e] at z
      obtain ⟨R, LL, _, h1, _⟩ := HSh.row_iff.mp z
      exact h ⟨LL, h1⟩
  refine g_ifS ?_
  walk_at "go"
  rcases kind_of_ok (C := C) hcm.1 with ⟨ls, rfl⟩ | ⟨t, h1, h2⟩
  rotate_left
  · refine g_kIsi h1 ?_
    rw [h2]
    walk_at "go"
    refine nol fun ⟨LL, z⟩ => ?_
    have e := z.eq
    subst e
    cases h1
    cases h2
  obtain ⟨m2, hm2⟩ := okR_sub hcm.1
  have hlsl : ls.length ≤ 8000 := Nat.le_trans (blks_len ls) hcm.2
  walk_at "go"
  rw [show isT "list" "list" = true from rfl]
  walk_at "go"
  by_cases hne : ls = []
  · subst hne
    refine g_iteD (fun _ => ?_) (fun z => absurd rfl z)
    walk_at "go"
    refine nol fun ⟨LL, z⟩ => ?_
    have e := z.eq
    have : LL = [] := by cases LL with | nil => rfl | cons a b => cases e
    exact z.ne this
  refine g_iteD (fun z => absurd (List.eq_nil_of_length_eq_zero (by omega)) hne) (fun _ => ?_)
  walk_at "go"
  refine g_kLcMap (fun d => .bl (isLy ends.length d)) (by simp only [sizeLine]; omega) (fun u hu R hR => ?_) ?_
  · walk_at "go"
    refine law_stands_ok M (hm2 u hu) fun b hb => ?_
    have e : b = isLy ends.length u := by
      rw [Bool.eq_iff_iff]
      exact hb.trans isLy_iff.symm
    rw [e]
    exact hR
  walk_at "go"
  refine g_all (blsD_map _ _) ?_
  rw [all_id]
  walk_at "go"
  cases hall : ls.all (isLy ends.length) with
  | false =>
    walk_at "go"
    refine nol fun ⟨LL, z⟩ => ?_
    have e := D.lst.inj z.eq
    rw [e, isLy_ly z.lt] at hall
    cases hall
  | true =>
  obtain ⟨LL, rfl, hlt⟩ := isLy_inv hall
  have hsm := small hcm.2
  have hp0 : 0 < LL.length := by
    cases LL with
    | nil => exact absurd rfl hne
    | cons a b => simp
  walk_at "go"
  refine g_ifS ?_
  walk_at "go"
  refine g_ixL (d := .lst (natsD (LL.getD 0 []))) (atI_nat' (i := 0) (lyD_get hp0)) ?_
  walk_at "go"
  refine g_ninNats (n := 0) ?_
  walk_at "go"
  by_cases h0 : 0 ∈ LL.getD 0 []
  rotate_left
  · rw [decide_eq_false h0]
    walk_at "go"
    refine nol fun ⟨LM, z⟩ => h0 ?_
    rw [lyD_inj (D.lst.inj z.eq)]
    exact z.st
  rw [decide_eq_true h0]
  have hL : Lyr ends.length (.lst (lyD LL)) LL := ⟨rfl, List.length_pos_iff.mp hp0, hlt, h0⟩
  have uq : ∀ {LM}, Lyr ends.length (.lst (lyD LL)) LM → LM = LL := fun h => (lyD_inj (D.lst.inj h.eq)).symm
  walk_at "go"
  rcases hl2 with hl2 | hl2
  · have : ws = [] := by
      rw [hus] at hl2
      simp only [List.length_cons, List.length_append, List.length_nil] at hl2
      exact List.eq_nil_of_length_eq_zero (by omega)
    subst this
    rw [List.nil_append] at hus
    subst hus
    refine g_ifT (fun K hK => ?_) ?_
    · walk_at "go"
      exact hK
    walk_at "go"
    by_cases hw : w = "none"
    · subst hw
      rw [decide_eq_true rfl]
      refine g_kAnd (fun _ => ?_) (fun z => nomatch z)
      walk_at "go"
      rw [lyD_len]
      refine inside_ok M hs12 hlt hsm (Nat.le_refl _) fun b hb => ?_
      refine k b (hb.trans ⟨fun z => HSh.none_iff.mpr ⟨LL, hL, z⟩, fun z => ?_⟩)
      obtain ⟨LM, h1, h2⟩ := HSh.none_iff.mp z
      rw [uq h1] at h2
      exact h2
    · rw [decide_eq_false hw]
      refine g_kAnd (fun z => nomatch z) (fun _ => no fun z => ?_)
      rcases z.shape with ⟨b, e⟩ | ⟨b, c', e⟩ <;> cases e
      exact hw rfl
  obtain ⟨b, rfl⟩ : ∃ b, ws = [b] := by
    rw [hus] at hl2
    simp only [List.length_cons, List.length_append, List.length_nil] at hl2
    match ws, hl2 with
    | [b], _ => exact ⟨b, rfl⟩
  have hus : us = [b, .lst (lyD LL)] := hus
  subst hus
  have hbm := hm b (by simp)
  refine g_ifF (fun K hK => ?_) ?_
  · walk_at "go"
    exact hK
  walk_at "go"
  refine g_ifS ?_
  walk_at "go"
  by_cases hw : w = "row"
  rotate_left
  · rw [decide_eq_false hw]
    walk_at "go"
    refine no fun z => ?_
    rcases z.shape with ⟨b, e⟩ | ⟨b, c', e⟩ <;> cases e
    exact hw rfl
  subst hw
  rw [decide_eq_true rfl]
  walk_at "go"
  have nob : (¬ ∃ R, b = .lst (natsD R) ∧ (∀ a ∈ R, a < sg) ∧ R.length + 1 = LL.length) → P (.bl false) C := fun h => no fun z => by
    obtain ⟨R, LM, e, h1, h2, h3, _⟩ := HSh.row_iff.mp z
    rw [uq h1] at h3
    exact h ⟨R, e, h2, h3⟩
  rcases kind_of_ok (C := C) hbm.1 with ⟨rs, rfl⟩ | ⟨t, h1, h2⟩
  rotate_left
  · refine g_kIsi h1 ?_
    rw [h2]
    walk_at "go"
    refine nob fun ⟨R, e, _⟩ => ?_
    subst e
    cases h1
    cases h2
  obtain ⟨m3, hm3⟩ := okR_sub hbm.1
  walk_at "go"
  rw [show isT "list" "list" = true from rfl]
  walk_at "go"
  rw [lyD_len]
  by_cases hrl : rs.length + 1 = LL.length
  rotate_left
  · refine g_ite (fun _ => ?_) (fun z => absurd z (by simp; omega))
    walk_at "go"
    refine nob fun ⟨R, e, _, h3⟩ => hrl ?_
    rw [D.lst.inj e, natsD_len]
    exact h3
  refine g_ite (fun z => absurd z (by simp; omega)) (fun _ => ?_)
  walk_at "go"
  have hg0 : 0 < goes.length := by omega
  have hgl : goes[0].length = sg := M.row _ (List.getElem_mem hg0)
  refine g_kForL (fun i st C' => ∃ x4, C' = C ∧ (rs.take i).all (isS sg) = true ∧ st = [some (machD ends goes), some (.tup [.str "row", .lst rs, .lst (lyD LL)]), some (.lst (lyD LL)), some (.lst rs), x4, none]) ⟨_, rfl, rfl, rfl⟩ (fun i d st C' hi hw => ?_) (fun st C' hw => ?_)
  · obtain ⟨x4, rfl, ha, rfl⟩ := hw
    have hd := hm3 d (List.mem_of_getElem? hi)
    have hdm := List.mem_of_getElem? hi
    have ht : rs.take (i + 1) = rs.take i ++ [d] := by rw [List.take_add_one, hi]; rfl
    refine g_ifB (!isS sg d) (fun K hK => ?_) (fun hp => ?_) (fun hp => ?_)
    · obtain ⟨t, h1, h2, h3, h4⟩ := isI_kind (C := C') hd
      walk_at "go"
      cases hi : isI d with
      | true =>
        obtain ⟨x, rfl⟩ : ∃ i, d = .int i := by cases d <;> first | exact ⟨_, rfl⟩ | cases hi
        walk_at "go"
        rw [show isT "int" "int" = true from rfl]
        walk_at "go"
        rw [show isT "bool" "int" = false from rfl]
        walk_at "go"
        refine g_kChain (fun z => ?_) (fun z => ?_)
        · walk_at "go"
          refine get_goC (u := 0) hg0 ?_
          walk_at "go"
          rw [List.length_map, hgl]
          have e : isS sg (.int x) = decide (x < (sg : Int)) := by simp only [isS]; rw [z, Bool.true_and]
          rw [e] at hK
          exact hK
        · have e : isS sg (.int x) = false := by simp only [isS]; rw [z, Bool.false_and]
          rw [e] at hK
          walk_at "go"
          exact hK
      | false =>
        have e : isS sg d = false := by cases d <;> first | rfl | cases hi
        rw [e] at hK
        refine g_kIsi h1 ?_
        rw [h2, hi, Bool.false_or]
        cases hb : (t == "bool") with
        | false =>
          walk_at "go"
          exact hK
        | true =>
          walk_at "go"
          refine g_kIsi h1 ?_
          rw [h3, hb]
          walk_at "go"
          exact hK
    · walk_at "go"
      refine nob fun ⟨R, e, h2, h3⟩ => ?_
      have e := D.lst.inj e
      rw [e] at hdm
      have := List.all_eq_true.mp (isS_nats h2) d hdm
      rw [this] at hp
      cases hp
    · walk_at "go"
      refine ⟨_, rfl, ?_, rfl⟩
      have hd' : isS sg d = true := by simpa using hp
      rw [ht, List.all_append, ha, List.all_cons, hd']
      rfl
  · obtain ⟨x4, rfl, ha, rfl⟩ := hw
    rw [List.take_length] at ha
    obtain ⟨R, rfl, hR⟩ := isS_inv ha
    rw [natsD_len] at hrl
    have uqR : ∀ {R2}, D.lst (natsD R) = .lst (natsD R2) → R2 = R := fun h => (natsD_inj (D.lst.inj h)).symm
    walk_at "go"
    refine llets_ok M hR ?_
    cases hlb : letB ends (runO goes (some 0) R) with
    | false =>
      refine g_kAnd (fun z => nomatch z) (fun _ => no fun z => ?_)
      obtain ⟨R2, LM, e, h1, h2, h3, h4, _⟩ := HSh.row_iff.mp z
      rw [uqR e, hlb] at h4
      cases h4
    | true =>
      refine g_kAnd (fun _ => ?_) (fun z => nomatch z)
      walk_at "go"
      rw [lyD_len, show (LL.length : Int) - 2 = ((LL.length - 1 : Nat) : Int) - 1 by omega]
      refine inside_ok M hs12 hlt hsm (by omega) fun b hb => ?_
      refine k b (hb.trans ⟨fun z => HSh.row_iff.mpr ⟨R, LL, rfl, hL, hR, hrl, hlb, z⟩, fun z => ?_⟩)
      obtain ⟨R2, LM, e, h1, h2, h3, h4, h5⟩ := HSh.row_iff.mp z
      rw [uq h1] at h5
      exact h5
theorem mem_take {LL : List (List Nat)} {i s : Nat} : s ∈ (LL.take i).flatten ↔ ∃ j, j < i ∧ s ∈ LL.getD j [] := by
  rw [List.mem_flatten]
  constructor
  · rintro ⟨L, hL, hs⟩
    obtain ⟨j, hj, e⟩ := List.getElem_of_mem hL
    rw [List.length_take] at hj
    rw [List.getElem_take] at e
    refine ⟨j, by omega, ?_⟩
    rw [List.getD_eq_getElem?_getD, List.getElem?_eq_getElem (by omega), e]
    exact hs
  · rintro ⟨j, hj, hs⟩
    by_cases hl : j < LL.length
    · rw [List.getD_eq_getElem?_getD, List.getElem?_eq_getElem hl] at hs
      refine ⟨LL[j], ?_, hs⟩
      exact List.mem_take_iff_getElem.mpr ⟨j, by omega, rfl⟩
    · rw [List.getD_eq_getElem?_getD, List.getElem?_eq_none (by omega)] at hs
      cases hs
theorem ins_zero {LL : List (List Nat)} {m : Nat} (h : Ins ends goes LL m) : ∀ (i a s : Nat), a + i < m → s ∈ (LL.take (a + 1)).flatten → (T ends goes i).getD s 0 = 0
  | 0, a, s, ha, hs => by
    obtain ⟨j, hj, hs⟩ := mem_take.mp hs
    exact T_zero0 (h j (by omega) s hs).1
  | i + 1, a, s, ha, hs => by
    obtain ⟨j, hj, hs⟩ := mem_take.mp hs
    refine T_zeroS fun b hb => ins_zero h i (a + 1) b (by omega) ?_
    obtain ⟨j2, hj2, hb2⟩ := mem_take.mp ((h j (by omega) s hs).2 b hb)
    exact mem_take.mpr ⟨j2, by omega, hb2⟩
theorem ins_zero2 {LL : List (List Nat)} (h : Ins ends goes LL LL.length) : ∀ (i s : Nat), s ∈ (LL.take LL.length).flatten → (T ends goes i).getD s 0 = 0
  | 0, s, hs => by
    obtain ⟨j, hj, hs⟩ := mem_take.mp hs
    exact T_zero0 (h j hj s hs).1
  | i + 1, s, hs => by
    obtain ⟨j, hj, hs⟩ := mem_take.mp hs
    refine T_zeroS fun b hb => ins_zero2 h i b ?_
    obtain ⟨j2, hj2, hb2⟩ := mem_take.mp ((h j hj s hs).2 b hb)
    refine mem_take.mpr ⟨j2, ?_, hb2⟩
    by_cases e : j2 < LL.length
    · exact e
    · rw [List.getD_eq_getElem?_getD, List.getElem?_eq_none (by omega)] at hb2
      cases hb2
theorem tabD_take {n j : Nat} : (tabD ends goes n).take j = tabD ends goes (min j n) := by
  unfold tabD
  rw [← List.map_take, List.take_range]
theorem zeros_ok (M : Mach sg ends goes) {m j : Nat} {s : ASt} {fin : List D → AH → Prop} {vs : List Nat} (hm : m ≤ 10000) (h : ∀ i, i < m → (T ends goes i).getD 0 0 = 0) (hj : ∀ d : D, ((wipeA s vs).set j (some d))[j]? = some (some d)) (k : fin (List.replicate m (.bl true)) C) : kLc (aGName j) aYes (aOp aEq (aOp aIx (aVar j) (aC (.int 0))) (aC (.int 0))) vs fin s (tabD ends goes m) (fun _ => True) C := by
  refine g_kLc (fun n acc C' => acc = List.replicate n (.bl true) ∧ C' = C) (by rw [tabD_len]; simp only [sizeLine]; omega) ⟨rfl, rfl⟩ (fun n d acc C' hn hw => ?_) (fun acc C' hw => ?_)
  · obtain ⟨rfl, rfl⟩ := hw
    have hnm : n < m := by have := (List.getElem?_eq_some_iff.mp hn).1; rwa [tabD_len] at this
    rw [tabD_get hnm] at hn
    cases hn
    have hz := h n hnm
    have hl := T_len M n
    have hp := M.pos
    generalize T ends goes n = l at hz hl
    refine g_gname' rfl ?_
    refine g_yes ?_
    show (if true = true then _ else _)
    rw [if_pos rfl]
    refine g_op (g_op (g_var (hj _) (g_c ?_)))
    have h0 : l[0]? = some 0 := by
      rw [List.getElem?_eq_getElem (by omega)]
      rw [List.getD_eq_getElem?_getD, List.getElem?_eq_getElem (by omega)] at hz
      exact congrArg some hz
    refine g_ixL (d := .int 0) (atI_nat' (i := 0) (by unfold natsD; rw [List.getElem?_map, h0]; rfl)) ?_
    refine g_c ?_
    refine g_eqII ?_
    refine ⟨?_, rfl⟩
    rw [List.replicate_succ']
    rfl
  · obtain ⟨rfl, rfl⟩ := hw
    rw [tabD_len]
    exact k
theorem bls_rep (n : Nat) : blsD (List.replicate n (.bl true)) = some (List.replicate n true) := by
  induction n with
  | zero => rfl
  | succ n ih => rw [List.replicate_succ, List.replicate_succ]; simp only [blsD, ih, Option.map_some]
theorem all_rep (n : Nat) : (List.replicate n true).all id = true := by rw [List.all_eq_true]; intro x hx; exact (List.mem_replicate.mp hx).2
theorem law_told_ok (M : Mach sg ends goes) {m : Nat} (hm : m ≤ 10000) {d : D} (hd : HSh sg ends goes d) (k : P (.bl true) C) : s_law_true [.lst (tabD ends goes m), d] C P := by
  unfold s_law_true a_law_true
  walk_at "go"
  rcases hd with ⟨x, LL, rfl, h1, h2⟩ | ⟨y, R, LL, rfl, h1, h2, h3, h4, h5⟩
  · refine g_ifT (fun K hK => ?_) ?_
    · walk_at "go"
      exact hK
    walk_at "go"
    refine zeros_ok M hm (fun i _ => ins_zero2 h2 i 0 (mem_take.mpr ⟨0, h1.pos, h1.st⟩)) (fun d => rfl) ?_
    walk_at "go"
    refine g_all (bls_rep _) ?_
    rw [all_rep]
    exact k
  · refine g_ifF (fun K hK => ?_) ?_
    · walk_at "go"
      exact hK
    walk_at "go"
    rw [natsD_len]
    refine g_cutTake (j := R.length) ?_
    rw [tabD_take]
    walk_at "go"
    refine zeros_ok (m := min R.length m) M (by omega) (fun i hi => ins_zero h5 i 0 0 (by omega) (mem_take.mpr ⟨0, by omega, h1.st⟩)) ?_ ?_
    · exact fun d => rfl
    walk_at "go"
    refine g_all (bls_rep _) ?_
    rw [all_rep]
    exact k
end
end A_k33
namespace A_k33
open PySem L2 AL
noncomputable def lays (goes : List (List (Option Nat))) (N K : Nat) : List (List Nat) := (List.range (K + 1)).map fun j => lay goes N N j
/-- the first end -/
def Fst (goes : List (List (Option Nat))) (ends : List Bool) (s : Nat) (r : List Nat) : Prop := ∃ (i : Nat), (bst goes ends.length).1[i]? = some s ∧ ends.getD s false = true ∧ (bst goes ends.length).2 s = some r ∧ ∀ (j : Nat), j < i → ∀ t, (bst goes ends.length).1[j]? = some t → ends.getD t false = false
/-- no end, and how long the longest row is -/
def Nst (goes : List (List (Option Nat))) (ends : List Bool) (K : Nat) : Prop := (∀ t ∈ (bst goes ends.length).1, ends.getD t false = false) ∧ (∀ t ∈ (bst goes ends.length).1, ln (bst goes ends.length) t ≤ K) ∧ ∃ t ∈ (bst goes ends.length).1, ln (bst goes ends.length) t = K
section
variable {sg : Nat} {ends : List Bool} {goes : List (List (Option Nat))} {C : AH} {P : D → AH → Prop}
theorem find_first {ends : List Bool} : ∀ (W : List Nat) (s : Nat) (es : List Nat), W.filter (fun t => ends.getD t false) = s :: es → ∃ (i : Nat), W[i]? = some s ∧ ends.getD s false = true ∧ ∀ (j : Nat), j < i → ∀ t, W[j]? = some t → ends.getD t false = false
  | [], s, es, h => by simp at h
  | a :: W, s, es, h => by
    by_cases ha : ends.getD a false = true
    · rw [List.filter_cons, if_pos ha] at h
      cases h
      exact ⟨0, rfl, ha, fun j hj => absurd hj (Nat.not_lt_zero _)⟩
    · rw [List.filter_cons, if_neg ha] at h
      obtain ⟨i, h1, h2, h3⟩ := find_first W s es h
      refine ⟨i + 1, h1, h2, fun j hj t ht => ?_⟩
      cases j with
      | zero => cases ht; simpa using ha
      | succ j => exact h3 j (by omega) t ht
theorem due_ok (M : Mach sg ends goes) (h12 : sg ≤ 12)
    (k1 : ∀ C' s r, AL.Keep C C' → Fst goes ends s r → r.length < ends.length → P (.tup [.str "row", .lst (natsD r), .lst (lyD (lays goes ends.length r.length))]) C')
    (k2 : ∀ C' K, AL.Keep C C' → Nst goes ends K → K < ends.length → P (.tup [.str "none", .lst (lyD (lays goes ends.length K))]) C') : s_law_due [machD ends goes] C P := by
  have hmo := M.most
  have hle := M.len
  have hpos := M.pos
  unfold s_law_due a_law_due
  walk_at "go"
  simp only [aDisp, aPairs]
  walk_at "go"
  refine ⟨by decide, fun q hq => ?_⟩
  have hK0 := (AL.Keep.refl C).put (c := .dk (mergeD [] [(.inl 0, .lst [])])) hq
  have hq0 : (put C q (.dk (mergeD [] [(.inl 0, .lst [])]))) q = some (.dk [(nk 0, .lst (natsD []))]) := put_same
  have hM0 : Ml [(nk 0, .lst (natsD []))] [0] (fun m => if m = 0 then some [] else none) := by
    have := Ml.put (f := fun _ => none) Mp.nil 0 []
    exact this
  generalize put C q (.dk (mergeD [] [(.inl 0, .lst [])])) = C0 at hK0 hq0
  walk_at "go"
  intro w hw
  have hqw : q ≠ w := ne_cell hq0 hw
  have hw0 := hK0.none hw
  have hK1 := hK0.put (c := .lst [.int 0]) hw0
  have hq1 := put_other (d := .lst [.int 0]) hqw hq0
  have hw1 : (put C0 w (.lst [.int 0])) w = some (.lst (natsD [0])) := put_same
  generalize put C0 w (.lst [.int 0]) = C1 at hK1 hq1 hw1
  walk_at "go"
  refine g_while (fun m st C' => ∃ (n : Nat) (es : List (Key × D)) (x4 x5 x6 : Option D), AL.Keep C C' ∧ C' q = some (.dk es) ∧ Ml es (bst goes n).1 (bst goes n).2 ∧ C' w = some (.lst (natsD (bst goes n).1)) ∧ n ≤ (bst goes n).1.length ∧ m = ends.length - n ∧
    st = [some (machD ends goes), some (.ce q), some (.ce w), some (.int (n : Nat)), x4, x5, x6, none, none, none, none, none]) ends.length ⟨0, _, _, _, _, hK1, hq1, hM0, hw1, Nat.zero_le _, rfl, rfl⟩ (fun m st C' hW => ?_)
  obtain ⟨n, es, x4, x5, x6, hK, hCq, hM, hCw, hn, rfl, rfl⟩ := hW
  have hI := bst_inv M n
  have hIl := hI.len
  walk_at "go"
  rw [natsD_len]
  refine g_iteD (fun hlt => ?_) (fun hlt => ?_)
  · have hn2 : n < (bst goes n).1.length := by omega
    have hs : (bst goes n).1[n]? = some (bst goes n).1[n] := List.getElem?_eq_getElem hn2
    have hsl := hI.lt _ (List.getElem_mem hn2)
    generalize (bst goes n).1[n] = s at hs hsl
    walk_at "go"
    refine g_ixL (d := .int (s : Nat)) (atI_nat' (by unfold natsD; rw [List.getElem?_map, hs]; rfl)) ?_
    walk_at "go"
    have hsg : s < goes.length := by omega
    refine get_goC hsg ?_
    have hr : goes[s]? = some goes[s] := List.getElem?_eq_getElem hsg
    have hgd : goes.getD s [] = goes[s] := by rw [List.getD_eq_getElem?_getD, hr]; rfl
    have hst := bst_step hs
    rw [hgd] at hst
    have hrw : goes[s].length = sg := M.row _ (List.getElem_mem hsg)
    have hgo := M.go _ (List.getElem_mem hsg)
    generalize goes[s] = row at hr hrw hgo hst
    obtain ⟨r, hfr⟩ := Option.isSome_iff_exists.mp ((hI.mem s).mp (List.mem_of_getElem? hs))
    rw [hfr] at hst
    have hst : bst goes (n + 1) = sc r row (bst goes n) row.length := hst
    have hsc := fun c => sc_ok (r := r) hI hgo c
    walk_at "go"
    refine g_kFor (fun c st C3 => ∃ (es : List (Key × D)) (x5 x6 : Option D), AL.Keep C C3 ∧ C3 q = some (.dk es) ∧ Ml es (sc r row (bst goes n) c).1 (sc r row (bst goes n) c).2 ∧ C3 w = some (.lst (natsD (sc r row (bst goes n) c).1)) ∧
      st = [some (machD ends goes), some (.ce q), some (.ce w), some (.int (n : Nat)), some (.int (s : Nat)), x5, x6, none, none, none, none, none]) ⟨es, _, _, hK, hCq, hM, hCw, rfl⟩ (fun c d st C3 hc hw => ?_) (fun st C3 hw => ?_)
    · obtain ⟨es, x5, x6, hK, hCq, hM, hCw, rfl⟩ := hw
      obtain ⟨x, hx, rfl⟩ := enumD_inv hc
      rw [List.getElem?_map] at hx
      cases ei : row[c]? with
      | none => rw [ei] at hx; cases hx
      | some o =>
        rw [ei] at hx
        cases hx
        have hIc := (hsc c).1
        have hIcl := hIc.len
        have hfo : (sc r row (bst goes n) c).2 s = some r := by rw [(hsc c).2.old s (by rw [hfr]; rfl)]; exact hfr
        have hrl : r.length ≤ 2000 := by
          have h1 := ln_lt M n s (List.mem_of_getElem? hs)
          unfold ln at h1
          rw [hfr] at h1
          simp only [Option.getD_some] at h1
          omega
        walk_at "go"
        refine g_ifS ?_
        walk_at "go"
        cases o with
        | none =>
          rw [show isNon (oD none) = true from rfl]
          walk_at "go"
          have e : sc r row (bst goes n) (c + 1) = sc r row (bst goes n) c := by rw [sc, ei]
          rw [← e] at hM hCw
          exact ⟨es, _, _, hK, hCq, hM, hCw, rfl⟩
        | some t =>
          rw [show isNon (oD (some t)) = false from rfl]
          walk_at "go"
          refine g_ninKn (n := t) rfl rfl hCq hM.ky (fun hb' => ?_) (fun hb' => ?_)
          · walk_at "go"
            have e : sc r row (bst goes n) (c + 1) = sc r row (bst goes n) c := by rw [sc, ei]; exact if_pos ((hIc.mem t).mp hb')
            rw [← e] at hM hCw
            exact ⟨es, _, _, hK, hCq, hM, hCw, rfl⟩
          · walk_at "go"
            refine g_putKG ?_
            walk_at "go"
            refine g_getK ?_
            walk_at "go"
            refine g_kGetK (asK_ce hCq) (show AL.keyOf (.int (s : Int)) = some (nk s) from rfl) (by rw [hM.at', hfo]; rfl) ?_
            walk_at "go"
            refine g_addL (by rw [natsD_len]; simp only [sizeLine, List.length_cons, List.length_nil]; omega) ?_
            walk_at "go"
            rw [show natsD r ++ [D.int (c : Int)] = natsD (r ++ [c]) by rw [natsD_app]; rfl]
            refine g_kPutKG hCq (show AL.keyOf (oD (some t)) = some (nk t) from rfl) (by rw [hM.ky.len]; simp only [sizeLine]; omega) ?_
            walk_at "go"
            refine g_append (put_other hqw.symm hCw) (by rw [natsD_len]; simp only [sizeLine]; omega) ?_
            walk_at "go"
            have e : sc r row (bst goes n) (c + 1) = ((sc r row (bst goes n) c).1 ++ [t], fun m => if m = t then some (r ++ [c]) else (sc r row (bst goes n) c).2 m) := by rw [sc, ei]; exact if_neg fun z => hb' ((hIc.mem t).mpr z)
            refine ⟨_, _, _, (hK.put hq).put hw0, put_other hqw put_same, ?_, ?_, rfl⟩
            · rw [e]
              have := hM.put t (r ++ [c])
              rw [addN_new hb'] at this
              exact this
            · rw [put_same, e]
              simp [natsD, oD]
    · obtain ⟨es, x5, x6, hK, hCq, hM, hCw, rfl⟩ := hw
      rw [enumD_len, List.length_map, ← hst] at hM hCw
      walk_at "go"
      refine ⟨ends.length - (n + 1), by omega, n + 1, es, _, _, _, hK, hCq, hM, hCw, ?_, rfl, rfl⟩
      obtain ⟨⟨X, h1⟩, _, _⟩ := later M (n := n) (m := n + 1) (by omega)
      rw [h1, List.length_append]
      by_cases hX : X = []
      · subst hX
        omega
      · have := List.length_pos_iff.mpr hX
        omega
  have hnl : (bst goes n).1.length = n := by omega
  have hfix := bst_fix (goes := goes) (n := n) (by omega) ends.length (by omega)
  have hln := ln_lt M n
  rw [← hfix] at hM hCw hI hln hIl
  clear hlt hn hnl
  refine g_frzK rfl hCq ?_
  have hCw := del_other hqw.symm hCw
  have hK := hK.del hq
  generalize del C' q = C2 at hCw hK
  refine g_frzL rfl hCw ?_
  have hK := hK.del hw0
  generalize del C2 w = C3 at hK
  generalize hW : (bst goes ends.length).1 = W at hM hCw hI hln hIl
  have hrow : ∀ t ∈ W, ∃ r, (bst goes ends.length).2 t = some r ∧ r.length = ln (bst goes ends.length) t ∧ r.length < ends.length := fun t ht => by
    obtain ⟨r, hr⟩ := Option.isSome_iff_exists.mp ((hI.mem t).mp (by rw [hW]; exact ht))
    have h1 := hln t ht
    unfold ln at h1 ⊢
    rw [hr] at h1 ⊢
    simp only [Option.getD_some] at h1 ⊢
    exact ⟨r, rfl, rfl, by omega⟩
  have hWlt : ∀ t ∈ W, t < ends.length := fun t ht => hI.lt t (by rw [hW]; exact ht)
  have hWn : W.Nodup := by rw [← hW]; exact hI.nd
  have h0W : 0 < W.length := by
    obtain ⟨⟨X, h1⟩, _⟩ := later M (n := 0) (m := ends.length) (Nat.zero_le _)
    rw [← hW, h1, List.length_append]
    show 0 < [0].length + _
    simp only [List.length_singleton]
    omega
  walk_at "go"
  refine g_lcF (xs := W) (g := fun (t : Nat) => D.int (t : Int)) (f := fun (t : Nat) => D.int (t : Int)) (fun t => ends.getD t false) (by simp only [sizeLine]; omega) (fun t ht Q hQ => ?_) (fun t ht _ Q hQ => ?_) ?_
  · have := hWlt t ht
    walk_at "go"
    refine get_end this ?_
    rw [List.getD_eq_getElem?_getD, List.getElem?_eq_getElem this, Option.getD_some] at hQ
    exact g_kTruB hQ
  · walk_at "go"
    exact hQ
  generalize hE : (W.filter fun t => ends.getD t false) = E
  rw [show (E.map fun (t : Nat) => D.int (t : Int)) = natsD E from rfl]
  walk_at "go"
  have hget : ∀ t ∈ W, ∀ (C : AH) (P : D → AH → Prop), (∀ r, (bst goes ends.length).2 t = some r → r.length = ln (bst goes ends.length) t → r.length < ends.length → P (.lst (natsD r)) C) → kGetK (.dk es) P (.int (t : Nat)) C := fun t ht C P k => by
    obtain ⟨r, h1, h2, h3⟩ := hrow t ht
    exact g_kGetK (C := C) (es := es) rfl (show AL.keyOf (.int (t : Int)) = some (nk t) from rfl) (by rw [hM.at', h1]; rfl) (k r h1 h2 h3)
  refine g_lcG (xs := W) (g := fun (t : Nat) => D.int (t : Int)) (f := fun t => D.int ((ln (bst goes ends.length) t : Nat) : Int)) (by simp only [sizeLine]; omega) (fun t ht Q hQ => ?_) ?_
  · walk_at "go"
    refine g_getK ?_
    walk_at "go"
    refine hget t ht _ _ fun r h1 h2 h3 => ?_
    walk_at "go"
    rw [natsD_len, h2]
    exact hQ
  walk_at "go"
  refine g_maxX (L := W.map (ln (bst goes ends.length))) (by unfold natsD; rw [List.map_map]; rfl) (by rw [List.length_map]; exact h0W) fun m hm hmax => ?_
  have hmN : m < ends.length := by
    obtain ⟨t, ht, rfl⟩ := List.mem_map.mp hm
    obtain ⟨r, _, h2, h3⟩ := hrow t ht
    omega
  walk_at "go"
  refine g_ifJ (fun st C' => ∃ K : Nat, K < ends.length ∧ (E = [] → K = m) ∧ (∀ s es, E = s :: es → ln (bst goes ends.length) s = K) ∧ C' = C3 ∧ st = [some (machD ends goes), some (.dk es), some (.lst (natsD W)), some (.int (n : Nat)), x4, x5, x6, some (.lst (natsD E)), some (.int (K : Nat)), none, none, none]) (fun N hN => ?_) (fun st C' hw => ?_)
  · refine g_ifS ?_
    walk_at "go"
    refine g_neNatsF ?_
    walk_at "go"
    cases hE2 : E with
    | nil =>
      walk_at "go"
      subst hE2
      exact hN _ _ ⟨m, hmN, fun _ => rfl, fun s es h => (nomatch h), rfl, rfl⟩
    | cons s es' =>
      have hsW : s ∈ W := by
        have : s ∈ W.filter fun t => ends.getD t false := by rw [hE, hE2]; exact List.mem_cons_self
        exact (List.mem_filter.mp this).1
      rw [show (!(s :: es').isEmpty) = true from rfl]
      walk_at "go"
      refine g_getK ?_
      walk_at "go"
      refine g_ixL (d := .int (s : Nat)) (atI_nat' (i := 0) rfl) ?_
      refine hget s hsW _ _ fun r h1 h2 h3 => ?_
      walk_at "go"
      rw [natsD_len]
      rw [← hE2]
      refine hN _ _ ⟨r.length, h3, fun h => ?_, fun s' es'' h => ?_, rfl, rfl⟩
      · rw [hE2] at h; cases h
      · rw [hE2] at h; cases h; exact h2.symm
  obtain ⟨K, hKN, hKm, hKs, rfl, rfl⟩ := hw
  walk_at "go"
  intro q2 hq2
  have hq20 := hK.none hq2
  have hK := hK.put (c := .lst []) hq20
  have hC9 : (put C' q2 (.lst [])) q2 = some (.lst (lyD ((List.range 0).map fun j => lay goes ends.length ends.length j))) := put_same
  generalize put C' q2 (.lst []) = C4 at hK hC9
  walk_at "go"
  rw [show ((K : Int) + 1).toNat = K + 1 by omega]
  refine g_kForR0 (fun i st C9 => ∃ x11, AL.Keep C C9 ∧ C9 q2 = some (.lst (lyD ((List.range i).map fun j => lay goes ends.length ends.length j))) ∧
    st = [some (machD ends goes), some (.dk es), some (.lst (natsD W)), some (.int (n : Nat)), x4, x5, x6, some (.lst (natsD E)), some (.int (K : Nat)), some (.ce q2), x11, none]) ⟨_, hK, hC9, rfl⟩ (fun i st C9 hi hw => ?_) (fun st C9 hw => ?_)
  · obtain ⟨x11, hK, hC9, rfl⟩ := hw
    walk_at "go"
    refine g_lcF (xs := W) (g := fun (t : Nat) => D.int (t : Int)) (f := fun (t : Nat) => D.int (t : Int)) (fun t => decide (ln (bst goes ends.length) t = i)) (by simp only [sizeLine]; omega) (fun t ht Q hQ => ?_) (fun t ht _ Q hQ => ?_) ?_
    · walk_at "go"
      refine g_getK ?_
      walk_at "go"
      refine hget t ht _ _ fun r h1 h2 h3 => ?_
      walk_at "go"
      rw [natsD_len, h2]
      have e : decide (((ln (bst goes ends.length) t : Nat) : Int) = (i : Int)) = decide (ln (bst goes ends.length) t = i) := by
        rw [Bool.eq_iff_iff, decide_eq_true_iff, decide_eq_true_iff]; omega
      rw [e]
      exact hQ
    · walk_at "go"
      exact hQ
    have hFn := hWn.filter (fun t => decide (ln (bst goes ends.length) t = i))
    have hFm : ∀ t, t ∈ W.filter (fun t => decide (ln (bst goes ends.length) t = i)) ↔ t < ends.length ∧ ∃ r, (bst goes ends.length).2 t = some r ∧ r.length = i := fun t => by
      rw [List.mem_filter, decide_eq_true_iff]
      constructor
      · rintro ⟨h1, h2⟩
        obtain ⟨r, g1, g2, g3⟩ := hrow t h1
        exact ⟨hWlt t h1, r, g1, g2.trans h2⟩
      · rintro ⟨h1, r, h2, h3⟩
        have htW : t ∈ W := by rw [← hW]; exact (hI.mem t).mpr (by rw [h2]; rfl)
        refine ⟨htW, ?_⟩
        obtain ⟨r', g1, g2, g3⟩ := hrow t htW
        rw [h2] at g1
        cases g1
        omega
    generalize (W.filter fun t => decide (ln (bst goes ends.length) t = i)) = F at hFn hFm
    rw [show (F.map fun (t : Nat) => D.int (t : Int)) = natsD F from rfl]
    walk_at "go"
    refine ⟨natsD F, F.map fun (n : Nat) => (n : Int), rfl, by unfold natsD; rw [List.map_map]; rfl, fun ys hp hs => ?_⟩
    rw [if_neg Bool.false_ne_true, sorted_rl (n := ends.length) (p := fun t => ∃ r, (bst goes ends.length).2 t = some r ∧ r.length = i) hp hs hFn hFm]
    walk_at "go"
    refine g_append hC9 (by rw [lyD_len, List.length_map, List.length_range]; simp only [sizeLine]; omega) ?_
    refine ⟨_, hK.put hq20, ?_, rfl⟩
    rw [put_same, List.range_succ, List.map_append, lyD_app]
    rfl
  obtain ⟨x11, hK, hC9, rfl⟩ := hw
  refine g_frzL rfl hC9 ?_
  have hK := hK.del hq20
  generalize del C' q2 = C5 at hK
  walk_at "go"
  refine g_ifS ?_
  walk_at "go"
  refine g_eqNatsF ?_
  walk_at "go"
  cases hE2 : E with
  | nil =>
    rw [show ([] : List Nat).isEmpty = true from rfl]
    walk_at "go"
    have := hKm hE2
    subst this
    refine k2 _ K hK ⟨fun t ht => ?_, fun t ht => ?_, ?_⟩ hKN
    · rw [hW] at ht
      cases q : ends.getD t false with
      | false => rfl
      | true =>
        have : t ∈ E := by rw [← hE]; exact List.mem_filter.mpr ⟨ht, q⟩
        rw [hE2] at this
        cases this
    · rw [hW] at ht
      exact hmax _ (List.mem_map.mpr ⟨t, ht, rfl⟩)
    · obtain ⟨t, ht, e⟩ := List.mem_map.mp hm
      exact ⟨t, by rw [hW]; exact ht, e⟩
  | cons s es' =>
    have hsW : s ∈ W := by
      have : s ∈ W.filter fun t => ends.getD t false := by rw [hE, hE2]; exact List.mem_cons_self
      exact (List.mem_filter.mp this).1
    rw [show (s :: es').isEmpty = false from rfl]
    walk_at "go"
    refine g_getK ?_
    walk_at "go"
    refine g_ixL (d := .int (s : Nat)) (atI_nat' (i := 0) rfl) ?_
    refine hget s hsW _ _ fun r h1 h2 h3 => ?_
    walk_at "go"
    have hKs := hKs s es' hE2
    have hrK : r.length = K := by rw [h2, hKs]
    rw [← hrK]
    obtain ⟨i, g1, g2, g3⟩ := find_first W s es' (by rw [hE, hE2])
    refine k1 _ s r hK ⟨i, by rw [hW]; exact g1, g2, h1, fun j hj t ht => g3 j hj t (by rw [← hW]; exact ht)⟩ h3
end
end A_k33
namespace A_k33
open PySem L2 AL
section
variable {sg : Nat} {ends : List Bool} {goes : List (List (Option Nat))}
abbrev SS (ends : List Bool) (goes : List (List (Option Nat))) : BS := bst goes ends.length
theorem sc_all {N : Nat} {r : List Nat} {row : List (Option Nat)} {S : BS} (hS : Inv N S) (hr : ∀ t, some t ∈ row → t < N) : ∀ (c k b : Nat), k < c → row[k]? = some (some b) → b ∈ (sc r row S c).1
  | 0, k, b, hk, _ => absurd hk (Nat.not_lt_zero _)
  | c + 1, k, b, hk, hb => by
    obtain ⟨h1, h2⟩ := sc_ok (r := r) hS hr c
    by_cases e : k = c
    · subst e
      unfold sc
      rw [hb]
      show b ∈ (if ((sc r row S k).2 b).isSome = true then sc r row S k else ((sc r row S k).1 ++ [b], fun m => if m = b then some (r ++ [k]) else (sc r row S k).2 m)).1
      split
      · rename_i hs
        exact (h1.mem b).mpr hs
      · simp
    · have ih := sc_all (r := r) hS hr c k b (by omega) hb
      unfold sc
      split
      · split
        · exact ih
        · exact List.mem_append_left _ ih
      · exact ih
theorem sc_run {r : List Nat} {row : List (Option Nat)} {S : BS} {s : Nat} (hrow : goes[s]? = some row) (hr : runO goes (some 0) r = some s) (hx : ∀ x ∈ r, x < sg) (hl : row.length = sg) (h : ∀ t r, S.2 t = some r → runO goes (some 0) r = some t ∧ ∀ x ∈ r, x < sg) : ∀ c t r', (sc r row S c).2 t = some r' → runO goes (some 0) r' = some t ∧ ∀ x ∈ r', x < sg
  | 0, t, r', e => h t r' e
  | c + 1, t, r', e => by
    have ih := sc_run hrow hr hx hl h c
    unfold sc at e
    split at e
    · rename_i b hb
      split at e
      · exact ih t r' e
      · have e : (if t = b then some (r ++ [c]) else (sc r row S c).2 t) = some r' := e
        by_cases ht : t = b
        · rw [if_pos ht] at e
          cases e
          refine ⟨?_, fun x hx' => ?_⟩
          · rw [run_snoc, hr]
            simp only [stepO, hrow, hb, ht]
          · rcases List.mem_append.mp hx' with z | z
            · exact hx x z
            · rw [List.mem_singleton.mp z, ← hl]
              exact (List.getElem?_eq_some_iff.mp hb).1
        · rw [if_neg ht] at e
          exact ih t r' e
    · exact ih t r' e
theorem bst_run (M : Mach sg ends goes) : ∀ n t r, (bst goes n).2 t = some r → runO goes (some 0) r = some t ∧ ∀ x ∈ r, x < sg
  | 0, t, r, h => by
    have h : (if t = 0 then some [] else none : Option (List Nat)) = some r := h
    by_cases e : t = 0
    · rw [if_pos e] at h
      cases h
      exact ⟨by rw [e]; rfl, by simp⟩
    · rw [if_neg e] at h; cases h
  | n + 1, t, r, h => by
    have ih := bst_run M n
    cases hs : (bst goes n).1[n]? with
    | none => rw [bst_stop hs] at h; exact ih t r h
    | some s =>
      rw [bst_step hs] at h
      have hI := bst_inv M n
      have hsm := List.mem_of_getElem? hs
      obtain ⟨r0, h0⟩ := Option.isSome_iff_exists.mp ((hI.mem s).mp hsm)
      have hlt := hI.lt s hsm
      have hsg : s < goes.length := by have := M.len; omega
      have hr : goes[s]? = some goes[s] := List.getElem?_eq_getElem hsg
      have hgd : goes.getD s [] = goes[s] := by rw [List.getD_eq_getElem?_getD, hr]; rfl
      rw [h0, hgd] at h
      exact sc_run hr (ih s r0 h0).1 (ih s r0 h0).2 (M.row _ (List.getElem_mem hsg)) ih _ t r h
theorem step_ln (M : Mach sg ends goes) {s b : Nat} (hs : s ∈ (SS ends goes).1) (hb : AL.Fw goes s b) : b ∈ (SS ends goes).1 ∧ ln (SS ends goes) b ≤ ln (SS ends goes) s + 1 := by
  obtain ⟨n, hn, e⟩ := List.getElem_of_mem hs
  have hI := bst_inv M ends.length
  have hnl := hI.len
  have hn1 : n < (bst goes n).1.length := by
    by_cases h : n < (bst goes n).1.length
    · exact h
    · have := bst_fix (goes := goes) (n := n) (by omega) ends.length (by have := hI.len; unfold SS at hn; omega)
      unfold SS at hn
      rw [this] at hn
      exact absurd hn h
  have hnN : n < ends.length := by unfold SS at hn; omega
  obtain ⟨⟨X, h1⟩, h2, h3⟩ := later M (n := n) (m := ends.length) (by omega)
  have hsn : (bst goes n).1[n]? = some s := by
    have : (SS ends goes).1[n]? = some s := by rw [List.getElem?_eq_getElem hn, e]
    unfold SS at this
    rw [h1, List.getElem?_append_left hn1] at this
    exact this
  have hIn := bst_inv M n
  have hIm := bst_inv M (n + 1)
  have hE := bst_ext M hsn
  obtain ⟨row, g1, g2⟩ := hb
  obtain ⟨k, hk, ek⟩ := List.getElem_of_mem g2
  have hgd : goes.getD s [] = row := by rw [List.getD_eq_getElem?_getD, g1]; rfl
  have hb1 : b ∈ (bst goes (n + 1)).1 := by
    rw [bst_step hsn, hgd]
    exact sc_all hIn (fun t ht => M.go row (List.mem_of_getElem? g1) t ht) row.length k b hk (by rw [List.getElem?_eq_getElem hk, ek])
  have hl1 : ln (bst goes (n + 1)) b ≤ ln (bst goes n) s + 1 := by
    by_cases h : b ∈ (bst goes n).1
    · rw [hE.ln_old ((hIn.mem b).mp h)]
      exact (mono M n).2 s hsn b h
    · rw [hE.ln_new hIn hb1 h]
      exact Nat.le_refl _
  obtain ⟨⟨Y, j1⟩, j2, j3⟩ := later M (n := n + 1) (m := ends.length) (by omega)
  refine ⟨by unfold SS; rw [j1]; exact List.mem_append_left _ hb1, ?_⟩
  have e1 : ln (SS ends goes) b = ln (bst goes (n + 1)) b := by unfold ln SS; rw [j2 b ((hIm.mem b).mp hb1)]
  have e2 : ln (SS ends goes) s = ln (bst goes n) s := by unfold ln SS; rw [h2 s ((hIn.mem s).mp (List.mem_of_getElem? hsn))]
  rw [e1, e2]
  exact hl1
theorem mem_lay (M : Mach sg ends goes) {t j : Nat} : t ∈ lay goes ends.length ends.length j ↔ t ∈ (SS ends goes).1 ∧ ln (SS ends goes) t = j := by
  have hI := bst_inv M ends.length
  unfold lay
  rw [mem_rl]
  constructor
  · rintro ⟨h1, r, h2, h3⟩
    refine ⟨(hI.mem t).mpr (by rw [h2]; rfl), ?_⟩
    unfold ln SS
    rw [h2]
    exact h3
  · rintro ⟨h1, h2⟩
    obtain ⟨r, hr⟩ := Option.isSome_iff_exists.mp ((hI.mem t).mp h1)
    refine ⟨hI.lt t h1, r, hr, ?_⟩
    unfold ln SS at h2
    rw [hr] at h2
    exact h2
theorem lays_len (N K : Nat) : (lays goes N K).length = K + 1 := by simp [lays]
theorem lays_get {N K i : Nat} (h : i ≤ K) : (lays goes N K).getD i [] = lay goes N N i := by
  unfold lays
  rw [List.getD_eq_getElem?_getD, List.getElem?_map, List.getElem?_range (by omega)]
  rfl
theorem lays_lt (N K : Nat) : ∀ L ∈ lays goes N K, L.length ≤ N ∧ ∀ a ∈ L, a < N := fun L hL => by
  obtain ⟨j, _, rfl⟩ := List.mem_map.mp hL
  exact ⟨rl_len _ _, fun a ha => (mem_rl.mp ha).1⟩
theorem zero_lay (M : Mach sg ends goes) {K : Nat} : 0 ∈ (lays goes ends.length K).getD 0 [] := by
  rw [lays_get (Nat.zero_le _), mem_lay M]
  obtain ⟨⟨X, h1⟩, h2, _⟩ := later M (n := 0) (m := ends.length) (Nat.zero_le _)
  refine ⟨by unfold SS; rw [h1]; exact List.mem_append_left _ (by simp [bst]), ?_⟩
  unfold ln SS
  rw [h2 0 rfl]
  rfl
theorem ins_lays (M : Mach sg ends goes) {K m : Nat} (hm : m ≤ K + 1) (he : ∀ t ∈ (SS ends goes).1, ln (SS ends goes) t < m → ends.getD t false = false) (hK : ∀ t ∈ (SS ends goes).1, ln (SS ends goes) t ≤ m → ln (SS ends goes) t ≤ K) : Ins ends goes (lays goes ends.length K) m := fun i hi s hs => by
  rw [lays_get (by omega), mem_lay M] at hs
  obtain ⟨h1, h2⟩ := hs
  refine ⟨he s h1 (by omega), fun b hb => ?_⟩
  obtain ⟨g1, g2⟩ := step_ln M h1 hb
  refine mem_take.mpr ⟨ln (SS ends goes) b, by omega, ?_⟩
  rw [lays_get (hK b g1 (by omega)), mem_lay M]
  exact ⟨g1, rfl⟩
theorem lays_lyr (M : Mach sg ends goes) (K : Nat) : Lyr ends.length (.lst (lyD (lays goes ends.length K))) (lays goes ends.length K) :=
  ⟨rfl, List.length_pos_iff.mp (by rw [lays_len]; omega), fun L hL => (lays_lt _ _ L hL).2, zero_lay M⟩
theorem nst_ins (M : Mach sg ends goes) {K : Nat} (h : Nst goes ends K) : Ins ends goes (lays goes ends.length K) (lays goes ends.length K).length := by
  rw [lays_len]
  exact ins_lays M (Nat.le_refl _) (fun t ht _ => h.1 t ht) fun t ht _ => h.2.1 t ht
theorem fst_facts (M : Mach sg ends goes) {s : Nat} {r : List Nat} (h : Fst goes ends s r) : Ins ends goes (lays goes ends.length r.length) r.length ∧ letB ends (runO goes (some 0) r) = true ∧ ∀ x ∈ r, x < sg := by
  obtain ⟨i, h1, h2, h3, h4⟩ := h
  obtain ⟨g1, g2⟩ := bst_run M ends.length s r h3
  have hln : ln (bst goes ends.length) s = r.length := by unfold ln; rw [h3]; rfl
  refine ⟨ins_lays M (Nat.le_succ _) (fun t ht hlt => ?_) (fun t _ h => h), ?_, g2⟩
  · obtain ⟨j, hj, e⟩ := List.getElem_of_mem ht
    have hjt : (bst goes ends.length).1[j]? = some t := by rw [List.getElem?_eq_getElem hj, e]
    by_cases hji : j < i
    · exact h4 j hji t hjt
    · have := (mono M ends.length).1 i j s t h1 hjt (by omega)
      unfold SS at hlt
      omega
  · rw [g1]
    exact h2
theorem ins_of {LL LM : List (List Nat)} {m : Nat} (h : Ins ends goes LL m) (h1 : ∀ i, ∀ s ∈ LL.getD i [], s ∈ LM.getD i []) (h2 : ∀ i, i < m → ∀ s ∈ LM.getD i [], (∃ k, k ≤ i ∧ s ∈ LL.getD k []) ∨ Leads ends goes (LM.take (i + 2)).flatten s) : Ins ends goes LM m := fun i hi s hs => by
  rcases h2 i hi s hs with ⟨k, hk, hs⟩ | z
  · obtain ⟨g1, g2⟩ := h k (by omega) s hs
    refine ⟨g1, fun b hb => ?_⟩
    obtain ⟨j, hj, hb⟩ := mem_take.mp (g2 b hb)
    exact mem_take.mpr ⟨j, by omega, h1 j b hb⟩
  · exact z
theorem flat_get {LL : List (List Nat)} {s : Nat} : s ∈ LL.flatten ↔ ∃ j, j < LL.length ∧ s ∈ LL.getD j [] := by
  have := mem_take (LL := LL) (i := LL.length) (s := s)
  rwa [List.take_length] at this
theorem flat_leads {LL : List (List Nat)} (h : Ins ends goes LL LL.length) {s : Nat} (hs : s ∈ LL.flatten) : ends.getD s false = false ∧ ∀ b, AL.Fw goes s b → b ∈ LL.flatten := by
  obtain ⟨j, hj, hs⟩ := flat_get.mp hs
  obtain ⟨g1, g2⟩ := h j hj s hs
  refine ⟨g1, fun b hb => ?_⟩
  obtain ⟨L, hL, hbL⟩ := List.mem_flatten.mp (g2 b hb)
  exact List.mem_flatten.mpr ⟨L, List.mem_of_mem_take hL, hbL⟩
theorem ins_flat {LL X : List (List Nat)} (h : Ins ends goes LL LL.length) (hX : ∀ L ∈ X, ∀ s ∈ L, s ∈ LL.flatten) : Ins ends goes (LL.flatten :: X) (LL.flatten :: X).length := fun i hi s hs => by
  have hs' : s ∈ LL.flatten := by
    cases i with
    | zero => exact hs
    | succ i =>
      rw [List.getD_cons_succ] at hs
      have hil : i < X.length := by simpa using hi
      exact hX _ (getD_mem hil) s hs
  obtain ⟨g1, g2⟩ := flat_leads h hs'
  exact ⟨g1, fun b hb => mem_take.mpr ⟨0, by omega, g2 b hb⟩⟩
theorem ins_shut {L0 Sh : List Nat} {LL : List (List Nat)} {m : Nat} (h : Ins ends goes (L0 :: LL) m) (hS : ∀ s ∈ Sh, ends.getD s false = false ∧ ∀ b, AL.Fw goes s b → b ∈ Sh) : Ins ends goes ((L0 ++ Sh) :: LL) m := by
  refine ins_of h (fun i s hs => ?_) fun i hi s hs => ?_
  · cases i with
    | zero => exact List.mem_append_left _ hs
    | succ i => exact hs
  · cases i with
    | zero =>
      rcases List.mem_append.mp (show s ∈ L0 ++ Sh from hs) with z | z
      · exact .inl ⟨0, Nat.le_refl _, z⟩
      · obtain ⟨g1, g2⟩ := hS s z
        exact .inr ⟨g1, fun b hb => mem_take.mpr ⟨0, by omega, List.mem_append_right _ (g2 b hb)⟩⟩
    | succ i => exact .inl ⟨i + 1, Nat.le_refl _, hs⟩
end
end A_k33
namespace A_k33
open PySem L2 AL
theorem Reach.head {R : Nat → Nat → Prop} {a b c : Nat} (h : R a b) (g : Reach R [b] c) : Reach R [a] c := by
  induction g with
  | base h2 => rw [List.mem_singleton.mp h2]; exact .step (.base (List.mem_singleton.mpr rfl)) h
  | step _ h2 ih => exact .step ih h2
theorem run_reach {goes : List (List (Option Nat))} {s e : Nat} : ∀ {r : List Nat}, runO goes (some s) r = some e → Reach (AL.Fw goes) [s] e := by
  intro r
  generalize hn : r.length = n
  induction n generalizing r e with
  | zero =>
    intro h
    have : r = [] := List.eq_nil_of_length_eq_zero hn
    subst this
    have : s = e := Option.some.inj h
    rw [this]
    exact .base (List.mem_singleton.mpr rfl)
  | succ n ih =>
    intro h
    obtain ⟨q, x, rfl⟩ : ∃ q x, r = q ++ [x] := by
      have hne : r ≠ [] := by intro z; rw [z] at hn; cases hn
      exact ⟨_, _, (List.dropLast_concat_getLast hne).symm⟩
    rw [run_snoc] at h
    cases hu : runO goes (some s) q with
    | none => rw [hu] at h; cases h
    | some u =>
      rw [hu] at h
      have h1 := ih (r := q) (e := u) (by simpa using hn) hu
      simp only [stepO] at h
      split at h
      · rename_i row hr
        split at h
        · rename_i o ho
          rw [h] at ho
          exact .step h1 ⟨row, hr, List.mem_of_getElem? ho⟩
        · cases h
      · cases h
theorem natsD_rev (L : List Nat) : (natsD L).reverse = natsD L.reverse := by unfold natsD; rw [List.map_reverse]
theorem natsD_take (L : List Nat) (j : Nat) : (natsD L).take j = natsD (L.take j) := by unfold natsD; rw [List.map_take]
theorem ly_last {LL : List (List Nat)} (h : 0 < LL.length) : atI (lyD LL) (-1) = some (.lst (natsD (LL.getD (LL.length - 1) []))) := by
  unfold atI ixN
  rw [lyD_len, if_neg (by omega), if_pos (by omega)]
  show (lyD LL)[(-1 + (LL.length : Int)).toNat]? = _
  rw [show (-1 + (LL.length : Int)).toNat = LL.length - 1 by omega]
  exact lyD_get (by omega)
theorem cutD_init (us : List D) : cutD us none (some (-1)) = us.take (us.length - 1) := by
  unfold cutD
  show (us.drop 0).take (HT.sIx us.length us.length (some (-1)) - 0) = _
  rw [List.drop_zero, Nat.sub_zero]
  congr 1
  simp only [HT.sIx]
  split <;> omega
/-- layers with the same stands, or more from below -/
structure Mgl (LL LM : List (List Nat)) : Prop where
  a : ∀ j, j < LM.length → ∀ s ∈ LL.getD j [], s ∈ LM.getD j []
  b : ∀ j, ∀ s ∈ LM.getD j [], ∃ k, k ≤ j ∧ s ∈ LL.getD k []
  c : ∀ L ∈ LM, L.length ≤ 64
theorem Mgl.nil (LL : List (List Nat)) : Mgl LL [] := ⟨fun j hj => absurd hj (Nat.not_lt_zero _), fun j s hs => by simp at hs, by simp⟩
theorem getD_app {LM : List (List Nat)} {X : List Nat} {j : Nat} : (LM ++ [X]).getD j [] = if j < LM.length then LM.getD j [] else if j = LM.length then X else [] := by
  rw [List.getD_eq_getElem?_getD]
  split
  · rename_i h
    rw [List.getElem?_append_left h, ← List.getD_eq_getElem?_getD]
  · rename_i h
    split
    · rename_i e
      subst e
      rw [List.getElem?_append_right (Nat.le_refl _)]
      simp
    · rename_i e
      rw [List.getElem?_eq_none (by simp; omega)]
      rfl
theorem Mgl.snoc {LL LM : List (List Nat)} (h : Mgl LL LM) {X : List Nat} (h1 : ∀ s ∈ LL.getD LM.length [], s ∈ X) (h2 : ∀ s ∈ X, ∃ k, k ≤ LM.length ∧ s ∈ LL.getD k []) (h3 : X.length ≤ 64) : Mgl LL (LM ++ [X]) := by
  refine ⟨fun j hj s hs => ?_, fun j s hs => ?_, fun L hL => ?_⟩
  · rw [List.length_append, List.length_singleton] at hj
    rw [getD_app]
    by_cases e : j < LM.length
    · rw [if_pos e]; exact h.a j e s hs
    · have : j = LM.length := by omega
      rw [if_neg e, if_pos this]
      rw [this] at hs
      exact h1 s hs
  · rw [getD_app] at hs
    by_cases e : j < LM.length
    · rw [if_pos e] at hs; exact h.b j s hs
    · rw [if_neg e] at hs
      by_cases e2 : j = LM.length
      · rw [if_pos e2] at hs
        rw [e2]
        exact h2 s hs
      · rw [if_neg e2] at hs; cases hs
  · rcases List.mem_append.mp hL with z | z
    · exact h.c L z
    · rw [List.mem_singleton.mp z]; exact h3
structure OkL (N : Nat) (LL : List (List Nat)) : Prop where
  pos : 0 < LL.length
  le : LL.length ≤ 8
  el : ∀ L ∈ LL, L.length ≤ 64 ∧ ∀ a ∈ L, a < N
def Wr (N sg : Nat) (d : D) : Prop := (∃ LL, d = .tup [.str "none", .lst (lyD LL)] ∧ OkL N LL) ∨ ∃ R LL, d = .tup [.str "row", .lst (natsD R), .lst (lyD LL)] ∧ OkL N LL ∧ R.length ≤ 8 ∧ ∀ x ∈ R, x < sg
section
variable {sg : Nat} {ends : List Bool} {goes : List (List (Option Nat))} {C : AH} {P : D → AH → Prop}
theorem mingled_ok {LL : List (List Nat)} (h0 : 0 < LL.length) (hl : LL.length ≤ 8) (hb : ∀ L ∈ LL, L.length ≤ 8) {p : Addr} (hp : Pen C p) (k : ∀ LM C', Pen C' p → Oth p C C' → LM.length = LL.length → Mgl LL LM → P (.lst (lyD LM)) C') : s_law_mingled [.ce p, .lst (lyD LL)] C P := by
  unfold s_law_mingled a_law_mingled
  walk_at "go"
  intro g hg
  have hpg : p ≠ g := by obtain ⟨_, h, _⟩ := hp; exact ne_cell h hg
  have hP := hp.other (c := .lst []) hpg
  have hO := (Oth.refl p C).put (c := .lst []) hg
  have hCg : (put C g (.lst [])) g = some (.lst (lyD [])) := put_same
  generalize put C g (.lst []) = C1 at hP hO hCg
  walk_at "go"
  refine g_cutL ?_
  rw [cutD_init, lyD_len]
  walk_at "go"
  have hgetL : ∀ j, (LL.getD j []).length ≤ 8 := fun j => by
    by_cases hj : j < LL.length
    · exact hb _ (getD_mem hj)
    · rw [List.getD_eq_getElem?_getD, List.getElem?_eq_none (by omega)]; simp
  refine g_kFor (fun i st C' => ∃ (LM : List (List Nat)) (x3 x4 x5 : Option D), Pen C' p ∧ Oth p C C' ∧ C' g = some (.lst (lyD LM)) ∧ LM.length = i ∧ Mgl LL LM ∧ st = [some (.ce p), some (.lst (lyD LL)), some (.ce g), x3, x4, x5]) ⟨[], _, _, _, hP, hO, hCg, rfl, Mgl.nil _, rfl⟩ (fun i d st C' hi hw => ?_) (fun st C' hw => ?_)
  · obtain ⟨LM, x3, x4, x5, hP, hO, hCg, hLM, hM, rfl⟩ := hw
    obtain ⟨x, hx, rfl⟩ := enumD_inv hi
    have hi1 : i < LL.length - 1 := by
      have := (List.getElem?_eq_some_iff.mp hx).1
      rw [List.length_take, lyD_len] at this
      omega
    rw [List.getElem?_take, if_pos hi1, lyD_get (by omega)] at hx
    cases hx
    have hX := hgetL i
    have hX1 : ∀ s ∈ LL.getD i [], ∃ k, k ≤ i ∧ s ∈ LL.getD k [] := fun s hs => ⟨i, Nat.le_refl _, hs⟩
    walk_at "go"
    refine g_cutTake (j := 1) ?_
    rw [natsD_rev, natsD_take]
    walk_at "go"
    refine g_addL (by simp only [natsD_len, List.length_reverse, List.length_take, sizeLine]; omega) ?_
    rw [← natsD_app]
    walk_at "go"
    have hY : ∀ s ∈ (LL.getD i []).reverse ++ (LL.getD i []).take 1, s ∈ LL.getD i [] := fun s hs => by
      rcases List.mem_append.mp hs with z | z
      · exact List.mem_reverse.mp z
      · exact List.mem_of_mem_take z
    have hY2 : ∀ s ∈ LL.getD i [], s ∈ (LL.getD i []).reverse ++ (LL.getD i []).take 1 := fun s hs => List.mem_append_left _ (List.mem_reverse.mpr hs)
    have hYl : ((LL.getD i []).reverse ++ (LL.getD i []).take 1).length ≤ 9 := by simp only [List.length_append, List.length_reverse, List.length_take]; omega
    generalize (LL.getD i []).reverse ++ (LL.getD i []).take 1 = Y at hY hY2 hYl
    refine g_ifJ (fun st C2 => ∃ (Z : List Nat), Pen C2 p ∧ Oth p C C2 ∧ C2 g = some (.lst (lyD LM)) ∧ (∀ s ∈ LL.getD i [], s ∈ Z) ∧ (∀ s ∈ Z, ∃ k, k ≤ i ∧ s ∈ LL.getD k []) ∧ Z.length ≤ 64 ∧
      st = [some (.ce p), some (.lst (lyD LL)), some (.ce g), some (.int (i : Nat)), some (.lst (natsD (LL.getD i []))), some (.lst (natsD Z))]) (fun N hN => ?_) (fun st C2 hw => ?_)
    · have same : ∀ C2, Pen C2 p → Oth p C C2 → C2 g = some (.lst (lyD LM)) → N [some (.ce p), some (.lst (lyD LL)), some (.ce g), some (.int (i : Nat)), some (.lst (natsD (LL.getD i []))), some (.lst (natsD Y))] C2 := fun C2 a b c => hN _ _ ⟨Y, a, b, c, hY2, fun s hs => hX1 s (hY s hs), by omega, rfl⟩
      refine g_ifS ?_
      walk_at "go"
      refine g_iteD (fun hi0 => ?_) (fun _ => ?_)
      · walk_at "go"
        refine take_nat (m := 2) hP (by omega) (by omega) fun c t hc ht => ?_
        have hP := pen_put (C := C') (p := p) hc
        have hO := hO.pen (c := c)
        have hCg : (put C' p c) g = some (.lst (lyD LM)) := put_other hpg.symm hCg
        generalize put C' p c = C2 at hP hO hCg
        walk_at "go"
        refine g_iteD (fun _ => ?_) (fun _ => ?_)
        · walk_at "go"
          refine take_nat (m := i) hP (by omega) (by omega) fun c t hc ht => ?_
          have hP := pen_put (C := C2) (p := p) hc
          have hO := hO.pen (c := c)
          have hCg : (put C2 p c) g = some (.lst (lyD LM)) := put_other hpg.symm hCg
          generalize put C2 p c = C3 at hP hO hCg
          walk_at "go"
          refine g_ixL (d := .lst (natsD (LL.getD t []))) (atI_nat' (lyD_get (by omega))) ?_
          have hT := hgetL t
          refine g_addL (by simp only [natsD_len, sizeLine]; omega) ?_
          rw [← natsD_app]
          walk_at "go"
          refine hN _ _ ⟨Y ++ LL.getD t [], hP, hO, hCg, fun s hs => List.mem_append_left _ (hY2 s hs), fun s hs => ?_, by rw [List.length_append]; omega, rfl⟩
          rcases List.mem_append.mp hs with z | z
          · exact hX1 s (hY s z)
          · exact ⟨t, by omega, z⟩
        · walk_at "go"
          exact same _ hP hO hCg
      · walk_at "go"
        exact same _ hP hO hCg
    obtain ⟨Z, hP, hO, hCg, h1, h2, h3, rfl⟩ := hw
    walk_at "go"
    refine g_append hCg (by rw [lyD_len]; simp only [sizeLine]; omega) ?_
    refine ⟨LM ++ [Z], _, _, _, hP.other hpg, hO.put hg, ?_, by rw [List.length_append, hLM]; rfl, ?_, rfl⟩
    · rw [put_same, lyD_app]; rfl
    · subst hLM
      exact hM.snoc h1 h2 h3
  · obtain ⟨LM, x3, x4, x5, hP, hO, hCg, hLM, hM, rfl⟩ := hw
    rw [enumD_len, List.length_take, lyD_len] at hLM
    have hLM : LM.length = LL.length - 1 := by omega
    refine g_frzL rfl hCg ?_
    have hP := hP.otherD hpg
    have hO := hO.del hg
    generalize del C' g = C2 at hP hO
    walk_at "go"
    refine g_ixL (ly_last h0) ?_
    walk_at "go"
    refine g_ixL (ly_last h0) ?_
    walk_at "go"
    refine g_cutTake (j := 1) ?_
    rw [natsD_take]
    have hX := hgetL (LL.length - 1)
    refine g_addL (by simp only [natsD_len, List.length_take, sizeLine]; omega) ?_
    rw [← natsD_app]
    walk_at "go"
    refine g_addL (by rw [lyD_len]; simp only [List.length_cons, List.length_nil, sizeLine]; omega) ?_
    have e : lyD LM ++ [D.lst (natsD (LL.getD (LL.length - 1) [] ++ (LL.getD (LL.length - 1) []).take 1))] = lyD (LM ++ [LL.getD (LL.length - 1) [] ++ (LL.getD (LL.length - 1) []).take 1]) := by rw [lyD_app]; rfl
    rw [e]
    refine k _ _ hP hO (by rw [List.length_append, hLM, List.length_singleton]; omega) (hM.snoc (fun s hs => ?_) (fun s hs => ?_) (by simp only [List.length_append, List.length_take]; omega))
    · rw [hLM] at hs; exact List.mem_append_left _ hs
    · refine ⟨LL.length - 1, by omega, ?_⟩
      rcases List.mem_append.mp hs with z | z
      · exact z
      · exact List.mem_of_mem_take z
end
end A_k33
namespace A_k33
open PySem L2 AL
theorem Mgl.lyr {n : Nat} {LL LM : List (List Nat)} (h : Lyr n (.lst (lyD LL)) LL) (hM : Mgl LL LM) (hl : LM.length = LL.length) : Lyr n (.lst (lyD LM)) LM := by
  refine ⟨rfl, List.length_pos_iff.mp (by have := h.pos; omega), fun L hL a ha => ?_, hM.a 0 (by have := h.pos; omega) 0 h.st⟩
  obtain ⟨j, hj, e⟩ := List.getElem_of_mem hL
  have : LM.getD j [] = L := by rw [List.getD_eq_getElem?_getD, List.getElem?_eq_getElem hj, e]; rfl
  obtain ⟨k, _, hk⟩ := hM.b j a (by rw [this]; exact ha)
  by_cases hkl : k < LL.length
  · exact h.lt _ (getD_mem hkl) a hk
  · rw [List.getD_eq_getElem?_getD, List.getElem?_eq_none (by omega)] at hk; cases hk
theorem Mgl.ins {ends : List Bool} {goes : List (List (Option Nat))} {LL LM : List (List Nat)} {m : Nat} (h : Ins ends goes LL m) (hM : Mgl LL LM) (hl : LM.length = LL.length) : Ins ends goes LM m := by
  refine ins_of h (fun i s hs => ?_) fun i _ s hs => .inl (hM.b i s hs)
  by_cases hi : i < LM.length
  · exact hM.a i hi s hs
  · rw [List.getD_eq_getElem?_getD, List.getElem?_eq_none (by omega)] at hs; cases hs
theorem Mgl.ok {N : Nat} {LL LM : List (List Nat)} (h : Lyr N (.lst (lyD LM)) LM) (hM : Mgl LL LM) (hl : LM.length ≤ 8) : OkL N LM := ⟨h.pos, hl, fun L hL => ⟨hM.c L hL, h.lt L hL⟩⟩
theorem Lyr.ok {N : Nat} {LL : List (List Nat)} (h : Lyr N (.lst (lyD LL)) LL) (hl : LL.length ≤ 8) (hc : ∀ L ∈ LL, L.length ≤ 64) : OkL N LL := ⟨h.pos, hl, fun L hL => ⟨hc L hL, h.lt L hL⟩⟩
section
variable {sg : Nat} {ends : List Bool} {goes : List (List (Option Nat))} {C : AH} {P : D → AH → Prop}
def Gd (sg : Nat) (ends : List Bool) (goes : List (List (Option Nat))) (d : D) : Prop := HSh sg ends goes d ∧ Wr ends.length sg d
theorem none_gd {LL : List (List Nat)} (h : Lyr ends.length (.lst (lyD LL)) LL) (hi : Ins ends goes LL LL.length) (ho : OkL ends.length LL) : Gd sg ends goes (.tup [.str "none", .lst (lyD LL)]) :=
  ⟨HSh.none_iff.mpr ⟨LL, h, hi⟩, .inl ⟨LL, rfl, ho⟩⟩
theorem row_gd {R : List Nat} {LL : List (List Nat)} (h : Lyr ends.length (.lst (lyD LL)) LL) (hR : ∀ a ∈ R, a < sg) (hl : R.length + 1 = LL.length) (hb : letB ends (runO goes (some 0) R) = true) (hi : Ins ends goes LL R.length) (ho : OkL ends.length LL) : Gd sg ends goes (.tup [.str "row", .lst (natsD R), .lst (lyD LL)]) :=
  ⟨HSh.row_iff.mpr ⟨R, LL, rfl, h, hR, hl, hb, by rw [← hl]; exact hi⟩, .inr ⟨R, LL, rfl, ho, by have := ho.le; omega, hR⟩⟩
theorem flat_lyr {N : Nat} {LL : List (List Nat)} (h : Lyr N (.lst (lyD LL)) LL) {X : List (List Nat)} (hX : ∀ L ∈ X, ∀ a ∈ L, a < N) : Lyr N (.lst (lyD (LL.flatten :: X))) (LL.flatten :: X) := by
  refine ⟨rfl, by simp, fun L hL a ha => ?_, flat_get.mpr ⟨0, h.pos, h.st⟩⟩
  rcases List.mem_cons.mp hL with z | z
  · rw [z] at ha
    obtain ⟨L2, h1, h2⟩ := List.mem_flatten.mp ha
    exact h.lt L2 h1 a h2
  · exact hX L z a ha
theorem flat_bound : ∀ {LL : List (List Nat)}, (∀ L ∈ LL, L.length ≤ 8) → LL.flatten.length ≤ LL.length * 8
  | [], _ => by simp
  | L :: LL, h => by
    have h1 := flat_bound fun X hX => h X (List.mem_cons_of_mem _ hX)
    have h2 := h L (by simp)
    rw [List.flatten_cons, List.length_append, List.length_cons]
    omega
theorem neq_ce {p g : Addr} (h : p ≠ g) : (D.ce g) ≠ .ce p := fun e => h (by cases e; rfl)
theorem written_ok (M : Mach sg ends goes) (hs12 : sg ≤ 12) (h8 : ends.length ≤ 8) {p : Addr} (hp : Pen C p) (k : ∀ x ds C', Pen C' p → x ≠ .ce p → asLr C' x = some ds → kindOf C' x = some "list" → (∀ d ∈ ds, Gd sg ends goes d) → P x C') : s_law_written [.ce p, machD ends goes] C P := by
  have hle := M.len
  have hpos := M.pos
  have hlen8 : ∀ K, ∀ L ∈ lays goes ends.length K, L.length ≤ 8 := fun K L hL => Nat.le_trans (lays_lt _ _ L hL).1 h8
  unfold s_law_written a_law_written
  walk_at "go"
  refine due_ok M hs12 (fun C1 s r hK hF hrl => ?_) (fun C1 K hK hN hKN => ?_)
  · obtain ⟨hin, hlb, hR⟩ := fst_facts M hF
    have hP := hp.keep hK
    have hLy := lays_lyr M r.length (goes := goes)
    have hLl : (lays goes ends.length r.length).length = r.length + 1 := lays_len _ _
    have hc8 := hlen8 r.length
    generalize lays goes ends.length r.length = LL at hin hLy hLl hc8
    have hg0 : Gd sg ends goes (.tup [.str "row", .lst (natsD r), .lst (lyD LL)]) := row_gd hLy hR (by omega) hlb hin (hLy.ok (by omega) fun L hL => by have := hc8 L hL; omega)
    walk_at "go"
    refine g_ixT (d := .lst (lyD LL)) rfl ?_
    walk_at "go"
    refine g_cutT ?_
    rw [show cutD [D.str "row", .lst (natsD r), .lst (lyD LL)] none (some (-1)) = [D.str "row", .lst (natsD r)] from rfl]
    walk_at "go"
    refine mingled_ok (by omega) (by omega) hc8 hP fun LM C2 hP hO hLM hM => ?_
    have hLyM := hM.lyr hLy hLM
    have hg1 : Gd sg ends goes (.tup [.str "row", .lst (natsD r), .lst (lyD LM)]) := row_gd hLyM hR (by omega) hlb (hM.ins hin hLM) (hM.ok hLyM (by omega))
    walk_at "go"
    refine g_addT (by simp only [List.length_cons, List.length_nil, sizeLine]; omega) ?_
    walk_at "go"
    intro g hg
    have hpg : p ≠ g := by obtain ⟨_, h, _⟩ := hP; exact ne_cell h hg
    have hP := hP.other (c := .lst [.tup [.str "row", .lst (natsD r), .lst (lyD LL)], .tup ([.str "row", .lst (natsD r)] ++ [.lst (lyD LM)])]) hpg
    have hCg : (put C2 g (.lst [.tup [.str "row", .lst (natsD r), .lst (lyD LL)], .tup ([.str "row", .lst (natsD r)] ++ [.lst (lyD LM)])])) g = some (.lst [.tup [.str "row", .lst (natsD r), .lst (lyD LL)], .tup [.str "row", .lst (natsD r), .lst (lyD LM)]]) := put_same
    generalize put C2 g (.lst [.tup [.str "row", .lst (natsD r), .lst (lyD LL)], .tup ([.str "row", .lst (natsD r)] ++ [.lst (lyD LM)])]) = C3 at hP hCg
    walk_at "go"
    refine g_ifF (fun K hK => ?_) ?_
    · walk_at "go"
      exact hK
    walk_at "go"
    have hP := hP.otherD hpg
    generalize AL.del C3 g = C4 at hP
    simp only [List.set_cons_succ, List.set_cons_zero]
    rw [List.length_map]
    walk_at "go"
    have gE : ∀ i, i < ends.length → ends[i]? = some (ends.getD i false) := fun i hi => by rw [List.getD_eq_getElem?_getD, List.getElem?_eq_getElem hi]; rfl
    rw [show (((ends.length : Nat) : Int)).toNat = ends.length by omega]
    rw [show rangeD 0 ends.length = (List.range ends.length).map fun (a : Nat) => D.int (a : Int) by
      unfold rangeD
      refine List.map_congr_left fun i _ => ?_
      rw [Int.zero_add]]
    refine g_lcF (xs := List.range ends.length) (g := fun (a : Nat) => D.int (a : Int)) (f := fun (a : Nat) => D.int (a : Int)) (fun a => ends.getD a false) (by rw [List.length_range]; simp only [sizeLine]; omega) (fun a ha R hR => ?_) (fun a _ _ R hR => ?_) ?_
    · have ha := List.mem_range.mp ha
      walk_at "go"
      refine get_end ha ?_
      rw [List.getD_eq_getElem?_getD, List.getElem?_eq_getElem ha, Option.getD_some] at hR
      exact g_kTruB hR
    · walk_at "go"
      exact hR
    have hgm : ∀ a, a ∈ (List.range ends.length).filter (fun a => ends.getD a false) ↔ a < ends.length ∧ ends.getD a false = true := fun a => by rw [List.mem_filter, List.mem_range]
    generalize (List.range ends.length).filter (fun a => ends.getD a false) = G at hgm
    rw [show (G.map fun (a : Nat) => D.int (a : Int)) = natsD G from rfl]
    walk_at "go"
    rw [List.length_map]
    walk_at "go"
    rw [show (((ends.length : Nat) : Int)).toNat = ends.length by omega]
    refine g_kLc (fun i acc C9 => ∃ L : List Nat, acc = natsD L ∧ L.length ≤ i ∧ (∀ a, a ∈ L ↔ a < i ∧ ∀ e ∈ G, ¬ Reach (AL.Fw goes) [a] e) ∧ AL.Keep C4 C9) (by rw [rangeD_len]; simp only [sizeLine]; omega) ⟨[], rfl, Nat.le_refl _, by simp, AL.Keep.refl _⟩ (fun i d acc C9 hi hw => ?_) (fun acc C9 hw => ?_)
    · obtain ⟨L, rfl, hLl2, hLm, hK9⟩ := hw
      have hin2 : i < ends.length := by have := (List.getElem?_eq_some_iff.mp hi).1; rwa [rangeD_len] at this
      rw [rangeD_get hin2] at hi
      cases hi
      rw [Int.zero_add]
      walk_at "go"
      refine row_to_ok M hin2 (fun r e C5 hK5 he hel hrun hrs hrl2 => ?_) (fun C5 hK5 hno => ?_)
      · walk_at "go"
        rw [show isNon (D.lst (natsD r)) = false from rfl]
        walk_at "go"
        refine ⟨L, rfl, by omega, fun a => ?_, hK9.trans hK5⟩
        rw [hLm]
        constructor
        · rintro ⟨h1, h2⟩; exact ⟨by omega, h2⟩
        · rintro ⟨h1, h2⟩
          refine ⟨?_, h2⟩
          by_cases ea : a = i
          · subst ea; exact absurd (run_reach hrun) (h2 e he)
          · omega
      · walk_at "go"
        rw [show isNon D.non = true from rfl]
        walk_at "go"
        refine ⟨L ++ [i], by rw [natsD_app]; rfl, by rw [List.length_append, List.length_singleton]; omega, fun a => ?_, hK9.trans hK5⟩
        rw [List.mem_append, List.mem_singleton, hLm]
        constructor
        · rintro (⟨h1, h2⟩ | h)
          · exact ⟨by omega, h2⟩
          · subst h; exact ⟨by omega, hno⟩
        · rintro ⟨h1, h2⟩
          by_cases ea : a = i
          · exact .inr ea
          · exact .inl ⟨by omega, h2⟩
    obtain ⟨Sh, rfl, hSl, hSm, hK9⟩ := hw
    rw [rangeD_len] at hSl hSm
    have hP := hP.keep hK9
    walk_at "go"
    refine g_cutT ?_
    rw [show cutD [D.str "row", .lst (natsD r), .lst (lyD LL)] none (some (-1)) = [D.str "row", .lst (natsD r)] from rfl]
    walk_at "go"
    refine g_ixL (d := .lst (natsD (LL.getD 0 []))) (atI_nat' (i := 0) (lyD_get hLy.pos)) ?_
    walk_at "go"
    have hL0 := hc8 _ (getD_mem hLy.pos)
    refine g_addL (by simp only [natsD_len, sizeLine]; omega) ?_
    rw [← natsD_app]
    walk_at "go"
    refine g_cutDrop (j := 1) ?_
    obtain ⟨L0, LT, rfl⟩ : ∃ L0 LT, LL = L0 :: LT := by
      cases LL with
      | nil => exact absurd hLy.pos (by simp)
      | cons a b => exact ⟨a, b, rfl⟩
    rw [show (lyD (L0 :: LT)).drop 1 = lyD LT from rfl, show (L0 :: LT).getD 0 [] = L0 from rfl]
    rw [show (L0 :: LT).getD 0 [] = L0 from rfl] at hL0
    rw [List.length_cons] at hLl
    refine g_addL (by rw [lyD_len]; simp only [List.length_cons, List.length_nil, sizeLine]; omega) ?_
    walk_at "go"
    refine g_addT (by simp only [List.length_cons, List.length_nil, sizeLine]; omega) ?_
    walk_at "go"
    refine g_addL (by simp only [List.length_cons, List.length_nil, sizeLine]; omega) ?_
    have hLy2 : Lyr ends.length (.lst (lyD ((L0 ++ Sh) :: LT))) ((L0 ++ Sh) :: LT) := by
      refine ⟨rfl, by simp, fun L hL a ha => ?_, List.mem_append_left _ hLy.st⟩
      rcases List.mem_cons.mp hL with z | z
      · rw [z] at ha
        rcases List.mem_append.mp ha with y | y
        · exact hLy.lt L0 (by simp) a y
        · exact ((hSm a).mp y).1
      · exact hLy.lt L (List.mem_cons_of_mem _ z) a ha
    have hSh : ∀ s ∈ Sh, ends.getD s false = false ∧ ∀ b, AL.Fw goes s b → b ∈ Sh := fun s hs => by
      obtain ⟨h1, h2⟩ := (hSm s).mp hs
      refine ⟨?_, fun b hb => (hSm b).mpr ⟨(hb.lt M).2, fun e he hr => h2 e he (Reach.head hb hr)⟩⟩
      cases q : ends.getD s false with
      | false => rfl
      | true => exact absurd (Reach.base (List.mem_singleton.mpr rfl)) (h2 s ((hgm s).mpr ⟨h1, q⟩))
    have hg2 : Gd sg ends goes (.tup [.str "row", .lst (natsD r), .lst (lyD ((L0 ++ Sh) :: LT))]) := row_gd hLy2 hR (by rw [List.length_cons]; omega) hlb (ins_shut hin hSh) (hLy2.ok (by rw [List.length_cons]; omega) fun L hL => by
      rcases List.mem_cons.mp hL with z | z
      · rw [z, List.length_append]; omega
      · have := hc8 L (List.mem_cons_of_mem _ z); omega)
    refine k _ [.tup [.str "row", .lst (natsD r), .lst (lyD (L0 :: LT))], .tup [.str "row", .lst (natsD r), .lst (lyD LM)], .tup [.str "row", .lst (natsD r), .lst (lyD ((L0 ++ Sh) :: LT))]] _ hP (fun e => nomatch e) rfl rfl fun d hd => ?_
    simp only [List.mem_cons, List.not_mem_nil, or_false] at hd
    rcases hd with rfl | rfl | rfl
    · exact hg0
    · exact hg1
    · exact hg2
  · have hin := nst_ins M hN
    have hP := hp.keep hK
    have hLy := lays_lyr M K (goes := goes)
    have hLl : (lays goes ends.length K).length = K + 1 := lays_len _ _
    have hc8 := hlen8 K
    generalize lays goes ends.length K = LL at hin hLy hLl hc8
    have hg0 : Gd sg ends goes (.tup [.str "none", .lst (lyD LL)]) := none_gd hLy hin (hLy.ok (by omega) fun L hL => by have := hc8 L hL; omega)
    have hfl := flat_bound hc8
    have hX : ∀ L ∈ [[], LL.getD (LL.length - 1) []], ∀ s ∈ L, s ∈ LL.flatten := fun L hL s hs => by
      simp only [List.mem_cons, List.not_mem_nil, or_false] at hL
      rcases hL with rfl | rfl
      · cases hs
      · exact flat_get.mpr ⟨LL.length - 1, by omega, hs⟩
    have hfN : ∀ s ∈ LL.flatten, s < ends.length := fun s hs => by
      obtain ⟨L, h1, h2⟩ := List.mem_flatten.mp hs
      exact hLy.lt L h1 s h2
    have hg2 : Gd sg ends goes (.tup [.str "none", .lst (lyD [LL.flatten])]) := by
      have hL := flat_lyr hLy (X := []) (by simp)
      exact none_gd hL (ins_flat hin (by simp)) (hL.ok (by simp) fun L hL => by rw [List.mem_singleton.mp hL]; omega)
    have hg3 : Gd sg ends goes (.tup [.str "none", .lst (lyD [LL.flatten, [], LL.getD (LL.length - 1) []])]) := by
      have hL := flat_lyr hLy (X := [[], LL.getD (LL.length - 1) []]) fun L hL a ha => hfN a (hX L hL a ha)
      refine none_gd hL (ins_flat hin hX) (hL.ok (by simp) fun L hL => ?_)
      simp only [List.mem_cons, List.not_mem_nil, or_false] at hL
      rcases hL with rfl | rfl | rfl
      · omega
      · simp
      · have := hc8 _ (getD_mem (LL := LL) (i := LL.length - 1) (by omega)); omega
    walk_at "go"
    refine g_ixT (d := .lst (lyD LL)) rfl ?_
    walk_at "go"
    refine g_cutT ?_
    rw [show cutD [D.str "none", .lst (lyD LL)] none (some (-1)) = [D.str "none"] from rfl]
    walk_at "go"
    refine mingled_ok (by omega) (by omega) hc8 hP fun LM C2 hP hO hLM hM => ?_
    have hLyM := hM.lyr hLy hLM
    have hg1 : Gd sg ends goes (.tup [.str "none", .lst (lyD LM)]) := none_gd hLyM (by rw [hLM]; exact hM.ins hin hLM) (hM.ok hLyM (by omega))
    walk_at "go"
    refine g_addT (by simp only [List.length_cons, List.length_nil, sizeLine]; omega) ?_
    walk_at "go"
    intro g hg
    have hpg : p ≠ g := by obtain ⟨_, h, _⟩ := hP; exact ne_cell h hg
    have hP := hP.other (c := .lst [.tup [.str "none", .lst (lyD LL)], .tup ([.str "none"] ++ [.lst (lyD LM)])]) hpg
    have hCg : (put C2 g (.lst [.tup [.str "none", .lst (lyD LL)], .tup ([.str "none"] ++ [.lst (lyD LM)])])) g = some (.lst [.tup [.str "none", .lst (lyD LL)], .tup [.str "none", .lst (lyD LM)]]) := put_same
    generalize put C2 g (.lst [.tup [.str "none", .lst (lyD LL)], .tup ([.str "none"] ++ [.lst (lyD LM)])]) = C3 at hP hCg
    walk_at "go"
    refine g_ifT (fun K hK => ?_) ?_
    · walk_at "go"
      exact hK
    walk_at "go"
    refine sum_ly (by omega) ?_
    walk_at "go"
    refine g_append hCg (by simp only [List.length_cons, List.length_nil, sizeLine]; omega) ?_
    walk_at "go"
    have hP := hP.other (c := .lst ([.tup [.str "none", .lst (lyD LL)], .tup [.str "none", .lst (lyD LM)]] ++ [.tup [.str "none", .lst [.lst (natsD LL.flatten)]]])) hpg
    have hCg2 : (put C3 g (.lst ([.tup [.str "none", .lst (lyD LL)], .tup [.str "none", .lst (lyD LM)]] ++ [.tup [.str "none", .lst [.lst (natsD LL.flatten)]]]))) g = some (.lst [.tup [.str "none", .lst (lyD LL)], .tup [.str "none", .lst (lyD LM)], .tup [.str "none", .lst (lyD [LL.flatten])]]) := put_same
    generalize put C3 g (.lst ([.tup [.str "none", .lst (lyD LL)], .tup [.str "none", .lst (lyD LM)]] ++ [.tup [.str "none", .lst [.lst (natsD LL.flatten)]]])) = C4 at hP hCg2
    refine sum_ly (by omega) ?_
    walk_at "go"
    refine g_ixL (ly_last (by omega)) ?_
    walk_at "go"
    refine g_append hCg2 (by simp only [List.length_cons, List.length_nil, sizeLine]; omega) ?_
    walk_at "go"
    refine k _ [.tup [.str "none", .lst (lyD LL)], .tup [.str "none", .lst (lyD LM)], .tup [.str "none", .lst (lyD [LL.flatten])], .tup [.str "none", .lst (lyD [LL.flatten, [], LL.getD (LL.length - 1) []])]] _ (hP.other hpg) (neq_ce hpg) (by simp only [asLr, asL, put_same]; rfl) (by simp [kindOf, put_same]) fun d hd => ?_
    simp only [List.mem_cons, List.not_mem_nil, or_false] at hd
    rcases hd with rfl | rfl | rfl | rfl
    · exact hg0
    · exact hg1
    · exact hg2
    · exact hg3
end
end A_k33
namespace A_k33
open PySem L2 AL
def El2 (d : D) : Prop := Bk 1 1 d
theorem El.two {d : D} (h : El d) : El2 d := Bk.mono h (by omega) (by omega)
theorem part_bk2 {vs : List D} (h : ∀ v ∈ vs, El2 v) (hl : vs.length ≤ 100) : Bk 2 201 (.lst vs) := (Bk.lst h hl).mono (by omega) (by omega)
theorem nats_el {n : Nat} {L : List Nat} (hn : n ≤ 1000) (h : ∀ a ∈ L, a < n) : ∀ v ∈ natsD L, El v := fun v hv => by
  obtain ⟨a, ha, rfl⟩ := List.mem_map.mp hv
  have := h a ha
  have hb : (1000 : Nat) ≤ 2 ^ 300 := by decide +kernel
  refine El.int ?_
  omega
def Lp (d : D) : Prop := Bk 3 1900 d
theorem lp_l {ds : List D} (h : ∀ x ∈ ds, Bk 2 201 x) (hl : ds.length ≤ 9) : Lp (.lst ds) := (Bk.lst h hl).mono (by omega) (by omega)
theorem lp_t {ds : List D} (h : ∀ x ∈ ds, Bk 2 201 x) (hl : ds.length ≤ 9) : Lp (.tup ds) := (Bk.tup h hl).mono (by omega) (by omega)
theorem th4 {ds : List D} (h : ∀ x ∈ ds, Lp x) (hl : ds.length ≤ 4) : Th (.tup ds) := (Bk.tup h hl).th
theorem word_lp {w : Str} (h : okR (.str w) 3 = true ∧ blk (.str w) ≤ 1900) : Lp (.str w) := h
theorem lyD_bk {N : Nat} {LL : List (List Nat)} (hN : N ≤ 1000) (h : OkL N LL) : ∀ x ∈ lyD LL, Bk 2 201 x := fun x hx => by
  obtain ⟨L, hL, rfl⟩ := List.mem_map.mp hx
  refine part_bk2 (fun v hv => (nats_el hN (h.el L hL).2 v hv).two) ?_
  rw [natsD_len]
  have := (h.el L hL).1
  omega
/-- a written thing's parts -/
structure Pts (N sg : Nat) (us : List D) (LL : List (List Nat)) : Prop where
  ok : OkL N LL
  last : atI us (-1) = some (.lst (lyD LL))
  len : us.length = 2 ∨ us.length = 3
  lp : ∀ x ∈ us, Lp x
  row : us.length = 3 → ∃ R, atI us 1 = some (.lst (natsD R)) ∧ R.length ≤ 8 ∧ ∀ x ∈ R, x < sg
theorem Wr.pts {N sg : Nat} {d : D} (hN : N ≤ 1000) (hs : sg ≤ 12) (h : Wr N sg d) : ∃ us LL, d = .tup us ∧ Pts N sg us LL := by
  rcases h with ⟨LL, rfl, ho⟩ | ⟨R, LL, rfl, ho, hR, hRs⟩
  · refine ⟨_, LL, rfl, ho, rfl, .inl rfl, fun x hx => ?_, fun z => absurd z (by simp)⟩
    simp only [List.mem_cons, List.not_mem_nil, or_false] at hx
    rcases hx with rfl | rfl
    · exact word_lp (by decide +kernel)
    · exact lp_l (lyD_bk hN ho) (by rw [lyD_len]; have := ho.le; omega)
  · refine ⟨_, LL, rfl, ho, rfl, .inr rfl, fun x hx => ?_, fun _ => ⟨R, rfl, hR, hRs⟩⟩
    simp only [List.mem_cons, List.not_mem_nil, or_false] at hx
    rcases hx with rfl | rfl | rfl
    · exact word_lp (by decide +kernel)
    · refine Bk.mono (part_bk2 (fun v hv => (nats_el (n := sg) (by omega) hRs v hv).two) (by rw [natsD_len]; omega)) (by omega) (by omega)
    · exact lp_l (lyD_bk hN ho) (by rw [lyD_len]; have := ho.le; omega)
section
variable {sg : Nat} {ends : List Bool} {goes : List (List (Option Nat))} {C : AH} {P : D → AH → Prop}
theorem lists_ok (M : Mach sg ends goes) (hs12 : sg ≤ 12) (h8 : ends.length ≤ 8) {us : List D} (hel : ∀ u ∈ us, El u) (hul : us.length ≤ 64) {p : Addr} (hp : Pen C p) (k : ∀ ds C', Pen C' p → Oth p C C' → ds.length ≤ 40 → (∀ d ∈ ds, Bk 2 201 d) → P (.lst ds) C') : s_law_lists [.ce p, machD ends goes, .lst us] C P := by
  have hpos := M.pos
  have hle := M.len
  have hel2 : ∀ u ∈ us, El2 u := fun u hu => (hel u hu).two
  have hsing : Bk 2 201 (.lst [.lst us]) := by
    have h1 : Bk 1 (64 * (1 + 1)) (.lst us) := Bk.lst hel hul
    exact (Bk.lst (l := 1) (fun d hd => by rw [List.mem_singleton.mp hd]; exact h1) (by simp)).mono (by omega) (by omega)
  unfold s_law_lists a_law_lists
  walk_at "go"
  have e0 : (if (us.length : Int) > 1 then (us.length : Int) else 1) = ((max us.length 1 : Nat) : Int) := by split <;> omega
  rw [e0]
  refine take_nat hp (by omega) (by omega) fun c t hc ht => ?_
  have hP := pen_put (C := C) (p := p) hc
  have hO : Oth p C (put C p c) := (Oth.refl p C).pen
  generalize put C p c = C1 at hP hO
  walk_at "go"
  rw [List.length_map]
  refine take_nat hP (by omega) (by omega) fun c h hc hh => ?_
  have hP2 := pen_put (C := C1) (p := p) hc
  have hO2 := hO.pen (c := c)
  generalize put C1 p c = C2 at hP2 hO2
  walk_at "go"
  have h0 : 0 < goes.length := by omega
  refine get_goC (u := 0) h0 ?_
  have hrl : goes[0].length = sg := M.row _ (List.getElem_mem h0)
  walk_at "go"
  rw [List.length_map, List.length_map, hrl]
  have h60 : ((10 : Int) ^ Int.toNat 60).natAbs ≤ 2 ^ 300 + 1 := by decide +kernel
  have hb : (1000 : Nat) ≤ 2 ^ 300 := by decide +kernel
  generalize (10 : Int) ^ Int.toNat 60 = far at h60
  have hEl : ∀ x ∈ [D.non, .int (-1), .int 0, .bl true, .bl false, .str "0", .int far, .int (ends.length : Int), .int (sg : Int), .int (h : Int), .lst [.int 0]], El2 x := by
    intro x hx
    simp only [List.mem_cons, List.not_mem_nil, or_false] at hx
    rcases hx with rfl | rfl | rfl | rfl | rfl | rfl | rfl | rfl | rfl | rfl | rfl
    · exact Bk.non.mono (by omega) (by omega)
    · exact (El.int (by decide +kernel)).two
    · exact (El.int (by decide +kernel)).two
    · exact (Bk.bl _).mono (by omega) (by omega)
    · exact (Bk.bl _).mono (by omega) (by omega)
    · exact ⟨by decide +kernel, by decide +kernel⟩
    · exact (El.int h60).two
    · exact (El.int (by omega)).two
    · exact (El.int (by omega)).two
    · exact (El.int (by omega)).two
    · exact ⟨by decide +kernel, by decide +kernel⟩
  have hEll : [D.non, .int (-1), .int 0, .bl true, .bl false, .str "0", .int far, .int (ends.length : Int), .int (sg : Int), .int (h : Int), .lst [.int 0]].length = 11 := rfl
  generalize [D.non, .int (-1), .int 0, .bl true, .bl false, .str "0", .int far, .int (ends.length : Int), .int (sg : Int), .int (h : Int), .lst [.int 0]] = things at hEl hEll
  refine g_kLcMap (fun x => .lst (us.take t ++ [x] ++ us.drop (t + 1))) (by simp only [sizeLine]; omega) (fun x hx R hR => ?_) ?_
  · walk_at "go"
    refine g_cutTake (j := t) ?_
    walk_at "go"
    refine g_addL (by simp only [sizeLine, List.length_take, List.length_cons, List.length_nil]; omega) ?_
    walk_at "go"
    rw [show (t : Int) + 1 = ((t + 1 : Nat) : Int) by omega]
    refine g_cutDrop (j := t + 1) ?_
    walk_at "go"
    refine g_addL (by simp only [sizeLine, List.length_append, List.length_take, List.length_drop, List.length_cons, List.length_nil]; omega) ?_
    exact hR
  walk_at "go"
  refine g_cutTake (j := t) ?_
  walk_at "go"
  rw [show (t : Int) + 1 = ((t + 1 : Nat) : Int) by omega]
  refine g_cutDrop (j := t + 1) ?_
  walk_at "go"
  refine g_addL (by simp only [sizeLine, List.length_take, List.length_drop]; omega) ?_
  walk_at "go"
  refine g_addL (by simp only [sizeLine, List.length_cons, List.length_nil]; omega) ?_
  walk_at "go"
  refine g_addL (by simp only [sizeLine, List.length_cons, List.length_nil]; omega) ?_
  walk_at "go"
  refine g_addL (by simp only [sizeLine, List.length_cons, List.length_nil]; omega) ?_
  walk_at "go"
  refine g_addL (by simp only [sizeLine, List.length_map, List.length_cons, List.length_nil]; omega) ?_
  walk_at "go"
  refine g_disp1F ?_
  walk_at "go"
  refine g_addL (by simp only [sizeLine, List.length_append, List.length_map, List.length_cons, List.length_nil]; omega) ?_
  have app : ∀ {xs ys : List D}, (∀ v ∈ xs, El2 v) → (∀ v ∈ ys, El2 v) → ∀ v ∈ xs ++ ys, El2 v := fun h1 h2 v hv => by
    rcases List.mem_append.mp hv with z | z
    · exact h1 v z
    · exact h2 v z
  have one : ∀ {x : D}, El2 x → ∀ v ∈ [x], El2 v := fun h v hv => by rw [List.mem_singleton.mp hv]; exact h
  have htk : ∀ v ∈ us.take t, El2 v := fun v hv => hel2 v (List.mem_of_mem_take hv)
  have hdr : ∀ v ∈ us.drop (t + 1), El2 v := fun v hv => hel2 v (List.mem_of_mem_drop hv)
  refine k _ C2 hP2 hO2 (by simp only [List.length_append, List.length_map, List.length_cons, List.length_nil]; omega) fun d hd => ?_
  simp only [List.append_assoc, List.mem_append, List.mem_map, List.mem_cons, List.not_mem_nil, or_false] at hd
  rcases hd with ⟨x, hx, rfl⟩ | hd
  · refine part_bk2 (app htk (app (one (hEl x hx)) hdr)) ?_
    simp only [List.length_append, List.length_take, List.length_drop, List.length_cons, List.length_nil]; omega
  rcases hd with (rfl | rfl | rfl | rfl | rfl | rfl | rfl) | rfl | rfl | rfl | rfl | rfl
  · exact part_bk2 (app htk hdr) (by simp only [List.length_append, List.length_take, List.length_drop]; omega)
  · exact part_bk2 (app hel2 (one (El.int (by omega)).two)) (by simp only [List.length_append, List.length_cons, List.length_nil]; omega)
  · exact part_bk2 (app hel2 (one (El.int (by decide +kernel)).two)) (by simp only [List.length_append, List.length_cons, List.length_nil]; omega)
  · exact part_bk2 (app hel2 (one ((Bk.bl _).mono (by omega) (by omega)))) (by simp only [List.length_append, List.length_cons, List.length_nil]; omega)
  · exact part_bk2 (fun v hv => hel2 v (List.mem_reverse.mp hv)) (by rw [List.length_reverse]; omega)
  · exact (Bk.tup hel2 (l := 64) hul).mono (by omega) (by omega)
  · exact part_bk2 (fun v hv => by cases hv) (by simp)
  · exact Bk.non.mono (by omega) (by omega)
  · exact Bk.mono (El.int (by decide +kernel)) (by omega) (by omega)
  · exact ⟨by decide +kernel, by decide +kernel⟩
  · exact ⟨by decide +kernel, by decide +kernel⟩
  · exact hsing
end
end A_k33
namespace A_k33
open PySem L2 AL
theorem words_lp : ∀ x ∈ [D.str "none", .str "row", .str "Row", .str "", .non, .int 0, .bl true, .lst [.str "row"]], Lp x := by
  intro x hx
  simp only [List.mem_cons, List.not_mem_nil, or_false] at hx
  rcases hx with rfl | rfl | rfl | rfl | rfl | rfl | rfl | rfl <;> exact ⟨by decide +kernel, by decide +kernel⟩
theorem lp_nil : Lp (.lst []) := ⟨by decide +kernel, by decide +kernel⟩
theorem app_lp {Q : D → Prop} {xs ys : List D} (h1 : ∀ v ∈ xs, Q v) (h2 : ∀ v ∈ ys, Q v) : ∀ v ∈ xs ++ ys, Q v := fun v hv => by
  rcases List.mem_append.mp hv with z | z
  · exact h1 v z
  · exact h2 v z
theorem one_lp {Q : D → Prop} {x : D} (h : Q x) : ∀ v ∈ [x], Q v := fun v hv => by rw [List.mem_singleton.mp hv]; exact h
section
variable {sg : Nat} {ends : List Bool} {goes : List (List (Option Nat))} {C : AH} {P : D → AH → Prop}
theorem bent_ok (M : Mach sg ends goes) (hs12 : sg ≤ 12) (h8 : ends.length ≤ 8) {us : List D} {LL : List (List Nat)} (hW : Pts ends.length sg us LL) {p : Addr} (hp : Pen C p) (k : ∀ ds C', Pen C' p → Oth p C C' → ds.length ≤ 300 → (∀ d ∈ ds, Th d) → P (.lst ds) C') : s_law_bent [.ce p, machD ends goes, .tup us] C P := by
  have hpos := M.pos
  have hle := M.len
  have hul : us.length ≤ 3 := by rcases hW.len with z | z <;> omega
  have hlp := hW.lp
  have hll : (lyD LL).length = LL.length := lyD_len LL
  have hL8 := hW.ok.le
  have hLp := hW.ok.pos
  have hly := lyD_bk (by omega) hW.ok
  have hLY : Lp (.lst (lyD LL)) := lp_l hly (by omega)
  have htk : ∀ j, ∀ x ∈ (lyD LL).take j, Bk 2 201 x := fun j x hx => hly x (List.mem_of_mem_take hx)
  have hdr : ∀ j, ∀ x ∈ (lyD LL).drop j, Bk 2 201 x := fun j x hx => hly x (List.mem_of_mem_drop hx)
  have hfl : LL.flatten.length ≤ 512 := by
    have : ∀ {X : List (List Nat)}, (∀ L ∈ X, L.length ≤ 64) → X.flatten.length ≤ X.length * 64 := by
      intro X
      induction X with
      | nil => simp
      | cons L X ih =>
        intro h
        have h1 := ih fun Y hY => h Y (List.mem_cons_of_mem _ hY)
        have h2 := h L (by simp)
        rw [List.flatten_cons, List.length_append, List.length_cons]
        omega
    have := this fun L hL => (hW.ok.el L hL).1
    omega
  have hsum : Lp (.lst (natsD LL.flatten)) := by
    refine (Bk.lst (l := 600) (nats_el (n := ends.length) (by omega) fun a ha => ?_) (by rw [natsD_len]; omega)).mono (by omega) (by omega)
    obtain ⟨L, h1, h2⟩ := List.mem_flatten.mp ha
    exact (hW.ok.el L h1).2 a h2
  unfold s_law_bent a_law_bent
  walk_at "go"
  refine g_ixT hW.last ?_
  walk_at "go"
  rw [hll]
  refine take_nat hp hLp (by omega) fun c t hc ht => ?_
  have hP := pen_put (C := C) (p := p) hc
  have hO : Oth p C (put C p c) := (Oth.refl p C).pen
  generalize put C p c = C1 at hP hO
  walk_at "go"
  rw [hll]
  refine take_nat hP hLp (by omega) fun c o hc ho => ?_
  have hP2 := pen_put (C := C1) (p := p) hc
  have hO2 := hO.pen (c := c)
  generalize put C1 p c = C2 at hP2 hO2
  walk_at "go"
  intro sw hsw
  have hpsw : p ≠ sw := by obtain ⟨_, h, _⟩ := hP2; exact ne_cell h hsw
  have hsw0 := hO2.none hpsw.symm hsw
  have hP := hP2.other (c := .lst (lyD LL)) hpsw
  have hO := hO2.put (c := .lst (lyD LL)) hsw0
  have hCs : (put C2 sw (.lst (lyD LL))) sw = some (.lst (lyD LL)) := put_same
  generalize put C2 sw (.lst (lyD LL)) = C3 at hP hO hCs
  walk_at "go"
  refine g_ixL (atI_nat' (lyD_get ho)) ?_
  walk_at "go"
  refine g_ixL (atI_nat' (lyD_get ht)) ?_
  walk_at "go"
  have hXo : Bk 2 201 (.lst (natsD (LL.getD o []))) := hly _ (List.mem_of_getElem? (lyD_get ho))
  have hXt : Bk 2 201 (.lst (natsD (LL.getD t []))) := hly _ (List.mem_of_getElem? (lyD_get ht))
  refine g_kSet (k := t) (us := lyD LL) hCs (ixN_nat (by omega)) ?_
  have hP := hP.other (c := .lst ((lyD LL).set t (.lst (natsD (LL.getD o []))))) hpsw
  have hO := hO.put (c := .lst ((lyD LL).set t (.lst (natsD (LL.getD o []))))) hsw0
  have hCs2 : (put C3 sw (.lst ((lyD LL).set t (.lst (natsD (LL.getD o [])))))) sw = some (.lst ((lyD LL).set t (.lst (natsD (LL.getD o []))))) := put_same
  generalize put C3 sw (.lst ((lyD LL).set t (.lst (natsD (LL.getD o []))))) = C4 at hP hO hCs2
  walk_at "go"
  refine g_kSet (k := o) (us := (lyD LL).set t (.lst (natsD (LL.getD o [])))) hCs2 (ixN_nat (by rw [List.length_set]; omega)) ?_
  have hSW : ∀ d ∈ ((lyD LL).set t (.lst (natsD (LL.getD o [])))).set o (.lst (natsD (LL.getD t []))), Bk 2 201 d := fun d hd => by
    rcases List.mem_or_eq_of_mem_set hd with h5 | h5
    · rcases List.mem_or_eq_of_mem_set h5 with h6 | h6
      · exact hly d h6
      · rw [h6]; exact hXo
    · rw [h5]; exact hXt
  have hSl : (((lyD LL).set t (.lst (natsD (LL.getD o [])))).set o (.lst (natsD (LL.getD t [])))).length ≤ 8 := by rw [List.length_set, List.length_set]; omega
  generalize ((lyD LL).set t (.lst (natsD (LL.getD o [])))).set o (.lst (natsD (LL.getD t []))) = swd at hSW hSl
  have hP := hP.other (c := .lst swd) hpsw
  have hO := hO.put (c := .lst swd) hsw0
  have hCs3 : (put C4 sw (.lst swd)) sw = some (.lst swd) := put_same
  generalize put C4 sw (.lst swd) = C5 at hP hO hCs3
  walk_at "go"
  have hP := hP.otherD hpsw
  have hO := hO.del hsw0
  generalize AL.del C5 sw = C6 at hP hO
  refine g_ixL (atI_nat' (lyD_get ht)) ?_
  walk_at "go"
  have hLt := hW.ok.el _ (getD_mem ht)
  refine lists_ok M hs12 h8 (nats_el (by omega) hLt.2) (by rw [natsD_len]; exact hLt.1) hP fun ds C7 hP hO7 hdl hdb => ?_
  have hO := hO.trans hO7
  walk_at "go"
  refine g_kLcMap (fun x => .lst ((lyD LL).take t ++ [x] ++ (lyD LL).drop (t + 1))) (by simp only [sizeLine]; omega) (fun x hx R hR => ?_) ?_
  · walk_at "go"
    refine g_cutTake (j := t) ?_
    walk_at "go"
    refine g_addL (by simp only [sizeLine, List.length_take, List.length_cons, List.length_nil]; omega) ?_
    walk_at "go"
    rw [show (t : Int) + 1 = ((t + 1 : Nat) : Int) by omega]
    refine g_cutDrop (j := t + 1) ?_
    walk_at "go"
    refine g_addL (by simp only [sizeLine, List.length_append, List.length_take, List.length_drop, List.length_cons, List.length_nil]; omega) ?_
    exact hR
  have hS1 : ∀ x ∈ ds.map (fun x => D.lst ((lyD LL).take t ++ [x] ++ (lyD LL).drop (t + 1))), Lp x := fun x hx => by
    obtain ⟨y, hy, rfl⟩ := List.mem_map.mp hx
    refine lp_l (app_lp (app_lp (htk t) (one_lp (hdb y hy))) (hdr (t + 1))) ?_
    simp only [List.length_append, List.length_take, List.length_drop, List.length_cons, List.length_nil]; omega
  have hS1l : (ds.map (fun x => D.lst ((lyD LL).take t ++ [x] ++ (lyD LL).drop (t + 1)))).length ≤ 40 := by rw [List.length_map]; exact hdl
  generalize ds.map (fun x => D.lst ((lyD LL).take t ++ [x] ++ (lyD LL).drop (t + 1))) = S1 at hS1 hS1l
  walk_at "go"
  refine g_cutTake (j := t) ?_
  walk_at "go"
  rw [show (t : Int) + 1 = ((t + 1 : Nat) : Int) by omega]
  refine g_cutDrop (j := t + 1) ?_
  walk_at "go"
  refine g_addL (by simp only [sizeLine, List.length_take, List.length_drop]; omega) ?_
  walk_at "go"
  refine g_cutTake (j := t) ?_
  walk_at "go"
  refine g_ixL (atI_nat' (lyD_get ht)) ?_
  walk_at "go"
  refine g_addL (by simp only [sizeLine, List.length_take, List.length_cons, List.length_nil]; omega) ?_
  walk_at "go"
  refine g_cutDrop (j := t) ?_
  walk_at "go"
  refine g_addL (by simp only [sizeLine, List.length_append, List.length_take, List.length_drop, List.length_cons, List.length_nil]; omega) ?_
  walk_at "go"
  refine g_addL (by simp only [sizeLine, List.length_cons, List.length_nil]; omega) ?_
  have hS2 : ∀ x ∈ S1 ++ [D.lst ((lyD LL).take t ++ (lyD LL).drop (t + 1)), .lst ((lyD LL).take t ++ [.lst (natsD (LL.getD t []))] ++ (lyD LL).drop t), .lst swd, .lst (lyD LL).reverse], Lp x := by
    refine app_lp hS1 fun x hx => ?_
    simp only [List.mem_cons, List.not_mem_nil, or_false] at hx
    rcases hx with rfl | rfl | rfl | rfl
    · exact lp_l (app_lp (htk t) (hdr (t + 1))) (by simp only [List.length_append, List.length_take, List.length_drop]; omega)
    · exact lp_l (app_lp (app_lp (htk t) (one_lp hXt)) (hdr t)) (by simp only [List.length_append, List.length_take, List.length_drop, List.length_cons, List.length_nil]; omega)
    · exact lp_l hSW (by omega)
    · exact lp_l (fun x hx => hly x (List.mem_reverse.mp hx)) (by rw [List.length_reverse]; omega)
  have hS2l : (S1 ++ [D.lst ((lyD LL).take t ++ (lyD LL).drop (t + 1)), .lst ((lyD LL).take t ++ [.lst (natsD (LL.getD t []))] ++ (lyD LL).drop t), .lst swd, .lst (lyD LL).reverse]).length ≤ 44 := by simp only [List.length_append, List.length_cons, List.length_nil]; omega
  generalize S1 ++ [D.lst ((lyD LL).take t ++ (lyD LL).drop (t + 1)), .lst ((lyD LL).take t ++ [.lst (natsD (LL.getD t []))] ++ (lyD LL).drop t), .lst swd, .lst (lyD LL).reverse] = S2 at hS2 hS2l
  walk_at "go"
  refine g_addL (by simp only [sizeLine, List.length_cons, List.length_nil]; omega) ?_
  walk_at "go"
  refine g_cutL ?_
  have hc1 := cutD_sub (us := lyD LL) (a := none) (b := some (-1))
  generalize cutD (lyD LL) none (some (-1)) = c1 at hc1
  walk_at "go"
  refine g_cutL ?_
  have hc2 := cutD_sub (us := lyD LL) (a := some 1) (b := none)
  generalize cutD (lyD LL) (some 1) none = c2 at hc2
  walk_at "go"
  refine sum_ly (by omega) ?_
  walk_at "go"
  refine g_addL (by simp only [sizeLine, List.length_cons, List.length_nil]; omega) ?_
  have hnil2 : Bk 2 201 (.lst []) := ⟨by decide +kernel, by decide +kernel⟩
  have hS3 : ∀ x ∈ S2 ++ [D.lst (lyD LL ++ [.lst []]), .lst c1, .lst c2, .tup (lyD LL), .lst [], .non, .int 0, .lst (natsD LL.flatten)], Lp x := by
    refine app_lp hS2 fun x hx => ?_
    simp only [List.mem_cons, List.not_mem_nil, or_false] at hx
    rcases hx with rfl | rfl | rfl | rfl | rfl | rfl | rfl | rfl
    · exact lp_l (app_lp hly (one_lp hnil2)) (by simp only [List.length_append, List.length_cons, List.length_nil]; omega)
    · exact lp_l (fun x hx => hly x (hc1.1 x hx)) (by omega)
    · exact lp_l (fun x hx => hly x (hc2.1 x hx)) (by omega)
    · exact lp_t hly (by omega)
    · exact lp_nil
    · exact Bk.non.mono (by omega) (by omega)
    · exact Bk.mono (El.int (by decide +kernel)) (by omega) (by omega)
    · exact hsum
  have hS3l : (S2 ++ [D.lst (lyD LL ++ [.lst []]), .lst c1, .lst c2, .tup (lyD LL), .lst [], .non, .int 0, .lst (natsD LL.flatten)]).length ≤ 52 := by simp only [List.length_append, List.length_cons, List.length_nil]; omega
  generalize S2 ++ [D.lst (lyD LL ++ [.lst []]), .lst c1, .lst c2, .tup (lyD LL), .lst [], .non, .int 0, .lst (natsD LL.flatten)] = S3 at hS3 hS3l
  walk_at "go"
  have hi1 := cutD_sub (us := us) (a := none) (b := some (-1))
  refine g_kLcMap (fun x => .tup (cutD us none (some (-1)) ++ [x])) (by simp only [sizeLine]; omega) (fun x hx R hR => ?_) ?_
  · walk_at "go"
    refine g_cutT ?_
    walk_at "go"
    refine g_addT (by simp only [sizeLine, List.length_cons, List.length_nil]; omega) ?_
    exact hR
  generalize cutD us none (some (-1)) = i1 at hi1
  have hS4 : ∀ x ∈ S3.map (fun x => D.tup (i1 ++ [x])), Th x := fun x hx => by
    obtain ⟨y, hy, rfl⟩ := List.mem_map.mp hx
    exact th4 (app_lp (fun z hz => hlp z (hi1.1 z hz)) (one_lp (hS3 y hy))) (by simp only [List.length_append, List.length_cons, List.length_nil]; omega)
  have hS4l : (S3.map (fun x => D.tup (i1 ++ [x]))).length ≤ 52 := by rw [List.length_map]; exact hS3l
  generalize S3.map (fun x => D.tup (i1 ++ [x])) = S4 at hS4 hS4l
  intro g hg
  have hpg : p ≠ g := by obtain ⟨_, h, _⟩ := hP; exact ne_cell h hg
  have hg0 := hO.none hpg.symm hg
  have hP := hP.other (c := .lst S4) hpg
  have hO := hO.put (c := .lst S4) hg0
  have hG : Got (put C7 g (.lst S4)) g 52 := ⟨S4, put_same, hS4l, hS4⟩
  generalize put C7 g (.lst S4) = C8 at hP hO hG
  walk_at "go"
  refine g_ifJ (fun st C' => ∃ (g : Addr) (x9 x12 : Option D), p ≠ g ∧ C g = none ∧ Pen C' p ∧ Oth p C C' ∧ Got C' g 94 ∧ st = [some (.ce p), some (machD ends goes), some (.tup us), some (.lst (lyD LL)), some (.int (t : Nat)), some (.int (o : Nat)), some (.lst swd), some (.lst S3), some (.ce g), none, x9, none, x12]) (fun N hN => ?_) (fun st C' hw => ?_)
  · rcases hW.len with hl | hl
    · refine g_ifF (fun K hK => ?_) ?_
      · walk_at "go"
        rw [hl]
        exact hK
      walk_at "go"
      exact hN _ _ ⟨g, _, _, hpg, hg0, hP, hO, hG.le (by omega), rfl⟩
    · obtain ⟨R, hR1, hR2, hR3⟩ := hW.row hl
      refine g_ifT (fun K hK => ?_) ?_
      · walk_at "go"
        rw [hl]
        exact hK
      walk_at "go"
      refine g_ixT hR1 ?_
      walk_at "go"
      refine lists_ok M hs12 h8 (nats_el (n := sg) (by omega) hR3) (by rw [natsD_len]; omega) hP fun es C9 hP hO9 hel heb => ?_
      have hG := hG.oth hO9 hpg.symm
      have hO := hO.trans hO9
      walk_at "go"
      refine g_kLcMap (fun x => .tup [.str "row", x, .lst (lyD LL)]) (by simp only [sizeLine]; omega) (fun x hx R hR => ?_) ?_
      · walk_at "go"
        exact hR
      walk_at "go"
      have hrw : Lp (.str "row") := word_lp (by decide +kernel)
      refine hG.addM (by rw [List.length_map]; omega) (fun d hd => ?_) fun g2 c hg2 hG2 => ?_
      · obtain ⟨y, hy, rfl⟩ := List.mem_map.mp hd
        refine th4 (fun z hz => ?_) (by simp)
        simp only [List.mem_cons, List.not_mem_nil, or_false] at hz
        rcases hz with rfl | rfl | rfl
        · exact hrw
        · exact Bk.mono (heb _ hy) (by omega) (by omega)
        · exact hLY
      have hpg2 : p ≠ g2 := by obtain ⟨_, h, _⟩ := hP; exact ne_cell h hg2
      have hg20 := hO.none hpg2.symm hg2
      have hP := hP.other (c := c) hpg2
      have hO := hO.put (c := c) hg20
      rw [List.length_map] at hG2
      have hG2 := hG2.le (m := 92) (by omega)
      generalize put C9 g2 c = C10 at hP hO hG2
      walk_at "go"
      obtain ⟨acc, hCg, hacc, haccT⟩ := hG2
      refine g_frzL rfl hCg ?_
      have hP := hP.otherD hpg2
      have hO := hO.del hg20
      generalize AL.del C10 g2 = C11 at hP hO
      walk_at "go"
      refine g_ixT hR1 ?_
      walk_at "go"
      refine g_addL (by simp only [natsD_len, sizeLine, List.length_cons, List.length_nil]; omega) ?_
      walk_at "go"
      refine g_addL (by simp only [sizeLine, List.length_cons, List.length_nil]; omega) ?_
      walk_at "go"
      refine g_ixT hR1 ?_
      walk_at "go"
      refine g_addL (by simp only [natsD_len, sizeLine, List.length_cons, List.length_nil]; omega) ?_
      walk_at "go"
      refine g_addL (by simp only [sizeLine, List.length_cons, List.length_nil]; omega) ?_
      walk_at "go"
      refine ⟨acc, _, rfl, rfl, by simp only [sizeLine, List.length_cons, List.length_nil]; omega, fun g3 hg3 => ?_⟩
      have hpg3 : p ≠ g3 := by obtain ⟨_, h, _⟩ := hP; exact ne_cell h hg3
      have hg30 := hO.none hpg3.symm hg3
      refine hN _ _ ⟨g3, _, _, hpg3, hg30, hP.other hpg3, hO.put hg30, ⟨_, put_same, by simp only [List.length_append, List.length_cons, List.length_nil]; omega, app_lp haccT fun d hd => ?_⟩, rfl⟩
      have hr0 : Lp (.lst (natsD R ++ [.int 0])) := by
        refine Bk.mono (part_bk2 (app_lp (fun v hv => (nats_el (n := sg) (by omega) hR3 v hv).two) (one_lp (El.int (by decide +kernel)).two)) (by simp only [natsD_len, List.length_append, List.length_cons, List.length_nil]; omega)) (by omega) (by omega)
      have h0l : Bk 2 201 (.lst [.int 0]) := ⟨by decide +kernel, by decide +kernel⟩
      simp only [List.mem_cons, List.not_mem_nil, or_false] at hd
      rcases hd with rfl | rfl
      · refine th4 (fun z hz => ?_) (by simp)
        simp only [List.mem_cons, List.not_mem_nil, or_false] at hz
        rcases hz with rfl | rfl | rfl
        · exact hrw
        · exact hr0
        · exact lp_l (app_lp hly (one_lp h0l)) (by simp only [List.length_append, List.length_cons, List.length_nil]; omega)
      · refine th4 (fun z hz => ?_) (by simp)
        simp only [List.mem_cons, List.not_mem_nil, or_false] at hz
        rcases hz with rfl | rfl | rfl
        · exact hrw
        · exact hr0
        · exact lp_l (app_lp hly (one_lp hnil2)) (by simp only [List.length_append, List.length_cons, List.length_nil]; omega)
  obtain ⟨g, x9, x12, hpg, hg0, hP, hO, hG, rfl⟩ := hw
  walk_at "go"
  have hw8 : [D.str "none", .str "row", .str "Row", .str "", .non, .int 0, .bl true, .lst [.str "row"]].length = 8 := rfl
  have hwl := words_lp
  generalize [D.str "none", .str "row", .str "Row", .str "", .non, .int 0, .bl true, .lst [.str "row"]] = words at hw8 hwl
  refine g_kForL (fun j st C' => ∃ (x9 : Option D), Pen C' p ∧ Oth p C C' ∧ Got C' g (94 + j) ∧ st = [some (.ce p), some (machD ends goes), some (.tup us), some (.lst (lyD LL)), some (.int (t : Nat)), some (.int (o : Nat)), some (.lst swd), some (.lst S3), some (.ce g), x9, _, none, _]) ⟨_, hP, hO, hG, rfl⟩ (fun j d st C' hj hw => ?_) (fun st C' hw => ?_)
  · obtain ⟨x9', hP, hO, hG, rfl⟩ := hw
    have hjl : j < words.length := (List.getElem?_eq_some_iff.mp hj).1
    have hdj := hwl d (List.mem_of_getElem? hj)
    walk_at "go"
    refine ⟨hG.ty, ?_⟩
    walk_at "go"
    refine g_cutT ?_
    have hc1 := cutD_sub (us := us) (a := some 1) (b := none)
    generalize cutD us (some 1) none = c1 at hc1
    walk_at "go"
    refine g_addT (by simp only [sizeLine, List.length_cons, List.length_nil]; omega) ?_
    walk_at "go"
    refine hG.app (by omega) (th4 (app_lp (one_lp hdj) fun x hx => hlp x (hc1.1 x hx)) (by simp only [List.length_append, List.length_cons, List.length_nil]; omega)) fun c hG' => ?_
    walk_at "go"
    exact ⟨_, hP.other hpg, hO.put hg0, hG'.le (by omega), rfl⟩
  obtain ⟨x9', hP, hO, hG, rfl⟩ := hw
  rw [hw8] at hG
  obtain ⟨acc, hCg, hacc, haccT⟩ := hG
  refine g_frzL rfl hCg ?_
  have hP := hP.otherD hpg
  have hO := hO.del hg0
  generalize AL.del C' g = C9 at hP hO
  walk_at "go"
  refine g_cutT ?_
  have hi1 := cutD_sub (us := us) (a := none) (b := some (-1))
  generalize cutD us none (some (-1)) = i1 at hi1
  walk_at "go"
  refine g_addT (by simp only [sizeLine, List.length_cons, List.length_nil]; omega) ?_
  walk_at "go"
  refine g_revT ?_
  walk_at "go"
  have hrw : Lp (.str "row") := word_lp (by decide +kernel)
  have hnw : Lp (.str "none") := word_lp (by decide +kernel)
  have hB7 : ∀ x ∈ [D.tup i1, .tup (us ++ [.lst (lyD LL)]), .lst us, .tup [.tup us], .tup us.reverse, .tup [.str "row", .lst [], .lst (lyD LL)], .tup [.str "none"]], Th x := by
    intro x hx
    simp only [List.mem_cons, List.not_mem_nil, or_false] at hx
    rcases hx with rfl | rfl | rfl | rfl | rfl | rfl | rfl
    · exact th4 (fun z hz => hlp z (hi1.1 z hz)) (by omega)
    · exact th4 (app_lp hlp (one_lp hLY)) (by simp only [List.length_append, List.length_cons, List.length_nil]; omega)
    · exact (Bk.lst (l := 4) hlp (by omega)).th
    · have h1 := Bk.tup (l := 3) hlp (by omega)
      exact (Bk.tup (l := 1) (fun d hd => by rw [List.mem_singleton.mp hd]; exact h1) (by simp)).th
    · exact th4 (fun z hz => hlp z (List.mem_reverse.mp hz)) (by rw [List.length_reverse]; omega)
    · refine th4 (fun z hz => ?_) (by simp)
      simp only [List.mem_cons, List.not_mem_nil, or_false] at hz
      rcases hz with rfl | rfl | rfl
      · exact hrw
      · exact lp_nil
      · exact hLY
    · exact th4 (one_lp hnw) (by simp)
  refine ⟨acc, _, rfl, rfl, by simp only [sizeLine, List.length_cons, List.length_nil]; omega, fun g3 hg3 => ?_⟩
  have hpg3 : p ≠ g3 := by obtain ⟨_, h, _⟩ := hP; exact ne_cell h hg3
  have hg30 := hO.none hpg3.symm hg3
  have hP := hP.other (c := .lst (acc ++ [D.tup i1, .tup (us ++ [.lst (lyD LL)]), .lst us, .tup [.tup us], .tup us.reverse, .tup [.str "row", .lst [], .lst (lyD LL)], .tup [.str "none"]])) hpg3
  have hO := hO.put (c := .lst (acc ++ [D.tup i1, .tup (us ++ [.lst (lyD LL)]), .lst us, .tup [.tup us], .tup us.reverse, .tup [.str "row", .lst [], .lst (lyD LL)], .tup [.str "none"]])) hg30
  have hCg3 : (put C9 g3 (.lst (acc ++ [D.tup i1, .tup (us ++ [.lst (lyD LL)]), .lst us, .tup [.tup us], .tup us.reverse, .tup [.str "row", .lst [], .lst (lyD LL)], .tup [.str "none"]]))) g3 = some (.lst (acc ++ [D.tup i1, .tup (us ++ [.lst (lyD LL)]), .lst us, .tup [.tup us], .tup us.reverse, .tup [.str "row", .lst [], .lst (lyD LL)], .tup [.str "none"]])) := put_same
  generalize put C9 g3 (.lst (acc ++ [D.tup i1, .tup (us ++ [.lst (lyD LL)]), .lst us, .tup [.tup us], .tup us.reverse, .tup [.str "row", .lst [], .lst (lyD LL)], .tup [.str "none"]])) = C10 at hP hO hCg3
  have hB : ∀ x ∈ acc ++ [D.tup i1, .tup (us ++ [.lst (lyD LL)]), .lst us, .tup [.tup us], .tup us.reverse, .tup [.str "row", .lst [], .lst (lyD LL)], .tup [.str "none"]], Th x := app_lp haccT hB7
  have hBl : (acc ++ [D.tup i1, .tup (us ++ [.lst (lyD LL)]), .lst us, .tup [.tup us], .tup us.reverse, .tup [.str "row", .lst [], .lst (lyD LL)], .tup [.str "none"]]).length ≤ 109 := by simp only [List.length_append, List.length_cons, List.length_nil]; omega
  generalize acc ++ [D.tup i1, .tup (us ++ [.lst (lyD LL)]), .lst us, .tup [.tup us], .tup us.reverse, .tup [.str "row", .lst [], .lst (lyD LL)], .tup [.str "none"]] = B at hB hBl hCg3
  walk_at "go"
  have hP := hP.otherD hpg3
  have hO := hO.del hg30
  generalize AL.del C10 g3 = C11 at hP hO
  walk_at "go"
  refine g_dict0F ?_
  walk_at "go"
  refine g_addL (by simp only [sizeLine, List.length_cons, List.length_nil]; omega) ?_
  refine k _ _ hP hO (by simp only [List.length_append, List.length_cons, List.length_nil]; omega) (app_lp hB fun x hx => ?_)
  simp only [List.mem_cons, List.not_mem_nil, or_false] at hx
  rcases hx with rfl | rfl | rfl | rfl | rfl | rfl | rfl | rfl | rfl | rfl
  · exact ⟨by decide +kernel, by decide +kernel⟩
  · exact ⟨by decide +kernel, by decide +kernel⟩
  · exact ⟨by decide +kernel, by decide +kernel⟩
  · exact ⟨by decide +kernel, by decide +kernel⟩
  · exact ⟨by decide +kernel, by decide +kernel⟩
  · exact ⟨by decide +kernel, by decide +kernel⟩
  · exact ⟨by decide +kernel, by decide +kernel⟩
  · exact hLY.th
  · refine th4 (fun z hz => ?_) (by simp)
    simp only [List.mem_cons, List.not_mem_nil, or_false] at hz
    rcases hz with rfl | rfl
    · exact hnw
    · exact hLY
  · exact ⟨by decide +kernel, by decide +kernel⟩
end
end A_k33
namespace A_k33
open PySem L2 AL
theorem g_notTrue {C : AH} {P : D → AH → Prop} {b : Bool} (h : P (.bl (!decide (b = true))) C) : aNotBl (.bl b) (.bl true) C P := h
theorem g_kILx {PI : List D → (AH → Prop) → AH → Prop} {C : AH} {x : D} {ds : List D} (h : asLr C x = some ds) (k : PI ds (fun C' => asLr C' x = some ds) C) : kIL PI x C := by
  unfold kIL
  rw [h]
  exact k
theorem asLr_oth {C C' : AH} {x : D} {ds : List D} {p : Addr} (h : asLr C x = some ds) (hx : x ≠ .ce p) (hO : Oth p C C') : asLr C' x = some ds := by
  cases x with
  | ce q =>
    have hq : q ≠ p := fun e => hx (by rw [e])
    have h : (match C q with | some (.lst ds) => some ds | _ => none) = some ds := h
    show (match C' q with | some (.lst ds) => some ds | _ => none) = some ds
    cases e : C q with
    | none => rw [e] at h; cases h
    | some c =>
      rw [hO q c hq e]
      rw [e] at h
      exact h
  | _ => exact h
theorem law_true : ∀ ns : List Int, ns.length ≤ 63 → s_law [.scr ns] (fun _ => none) (fun d _ => d = .bl true) := by
  intro ns _
  unfold s_law a_law
  walk_at "go"
  refine pen_ok (j := 0) fun p c hp hc => ?_
  walk_at "go"
  refine signs_ok (pen_put hc) fun c sg hc h1 hs => ?_
  rw [put_put]
  walk_at "go"
  refine machine_ok (most := 8) (pen_put hc) (by omega) (by omega) hs fun ends goes C1 M h8 hP _ => ?_
  walk_at "go"
  refine g_ifJ (fun st C' => ∃ (ends : List Bool) (goes : List (List (Option Nat))), Mach sg ends goes ∧ ends.length ≤ 8 ∧ st = [some (.scr ns), some (.ce p), some (.int (sg : Int)), some (machD ends goes), none, none, none, none, none, none, none]) (fun N hN => ?_) (fun st C' hw => ?_)
  · refine g_ifS ?_
    walk_at "go"
    refine take_nat (m := 5) hP (by omega) (by omega) fun c m1 hc hm1 => ?_
    have hP := pen_put (C := C1) (p := p) hc
    generalize put C1 p c = C2 at hP ⊢
    walk_at "go"
    refine g_ite (fun _ => ?_) (fun _ => ?_)
    · walk_at "go"
      refine ring_ok hP h1 hs fun ends goes C3 M h8 _ => ?_
      walk_at "go"
      exact hN _ _ ⟨ends, goes, M, h8, rfl⟩
    · walk_at "go"
      exact hN _ _ ⟨ends, goes, M, h8, rfl⟩
  obtain ⟨ends, goes, M, h8, rfl⟩ := hw
  have hmo := M.most
  have hle := M.len
  walk_at "go"
  rw [List.length_map]
  walk_at "go"
  rw [show (2 : Int) * (ends.length : Int) + 2 = ((2 * ends.length + 2 : Nat) : Int) by omega]
  refine ltable_ok M hs (by omega) ?_
  walk_at "go"
  refine g_kLcMap (fun d => d) ?_ (fun d hd R hR => ?_) ?_
  · simp only [List.length_map, sizeLine]; omega
  · obtain ⟨r, _, rfl⟩ := List.mem_map.mp hd
    walk_at "go"
    exact hR
  rw [List.map_id']
  walk_at "go"
  refine pen_ok (j := 25) fun p2 c2 hp2 hc2 => ?_
  have hP := pen_put (C := C') (p := p2) hc2
  generalize put C' p2 c2 = C1 at hP
  walk_at "go"
  refine written_ok M hs h8 hP fun x ds C2 hP hx hds _ hgd => ?_
  refine g_kILx hds ?_
  refine g_kForH (fun i st C' => ∃ x6 x7 x8 x9, Pen C' p2 ∧ asLr C' x = some ds ∧ st = [some (.scr ns), some (.ce p2), some (.int (sg : Int)), some (machD ends goes), some (.lst (tabD ends goes (2 * ends.length + 2 + 1))), some (machD ends goes), x6, x7, x8, x9, none]) ⟨_, _, _, _, hP, hds, rfl⟩ (fun i st C' _ hw => ?_) (fun i d st C' hi hw => ?_) (fun st C' hw => ?_)
  · obtain ⟨_, _, _, _, _, h, _⟩ := hw
    exact h
  · obtain ⟨x6, x7, x8, x9, hP, hds, rfl⟩ := hw
    obtain ⟨hsp, hwr⟩ := hgd d (List.mem_of_getElem? hi)
    obtain ⟨us, LL, rfl, hpt⟩ := hwr.pts (by omega) hs
    have hth : Th (.tup us) := th4 hpt.lp (by rcases hpt.len with z | z <;> omega)
    walk_at "go"
    refine g_ifS ?_
    walk_at "go"
    refine holds_ok M hs hth fun C3 b hK hb => ?_
    have hP := hP.keep hK
    have hds := asLr_oth hds hx (Oth.of hK)
    rw [hb.mpr hsp]
    walk_at "go"
    refine g_notTrue ?_
    rw [decide_eq_true rfl]
    walk_at "go"
    refine bent_ok M hs h8 hpt hP fun es C4 hP hO hel het => ?_
    have hds := asLr_oth hds hx hO
    walk_at "go"
    refine g_kForL (fun i st C' => ∃ x7 x8 x9, Pen C' p2 ∧ asLr C' x = some ds ∧ st = [some (.scr ns), some (.ce p2), some (.int (sg : Int)), some (machD ends goes), some (.lst (tabD ends goes (2 * ends.length + 2 + 1))), some (machD ends goes), some (.tup us), x7, x8, x9, none]) ⟨_, _, _, hP, hds, rfl⟩ (fun i e st C' hi hw => ?_) (fun st C' hw => ?_)
    · obtain ⟨x7, x8, x9, hP, hds, rfl⟩ := hw
      have he := het e (List.mem_of_getElem? hi)
      walk_at "go"
      refine g_repr 6 he.1 (by omega) he.2 ?_
      walk_at "go"
      refine holds_ok M hs he fun C3 b hK hb => ?_
      have hP := hP.keep hK
      have hds := asLr_oth hds hx (Oth.of hK)
      walk_at "go"
      refine g_ifF (fun K hK => ?_) ?_
      · walk_at "go"
        rw [show isT "bool" "bool" = true from rfl]
        walk_at "go"
        refine law_holds_ok M hs he fun b' hb' => ?_
        have e : b = b' := by
          have h := hb.trans hb'.symm
          cases b <;> cases b' <;> simp at h ⊢
        subst e
        walk_at "go"
        simpa using hK
      walk_at "go"
      refine g_ifF (fun K hK => ?_) ?_
      · walk_at "go"
        refine g_repr 6 he.1 (by omega) he.2 ?_
        walk_at "go"
        rw [decide_eq_true rfl]
        walk_at "go"
        refine g_neR 5 (okD_mach ends goes 2) (by decide) ?_
        walk_at "go"
        cases b with
        | false =>
          walk_at "go"
          exact hK
        | true =>
          walk_at "go"
          refine law_told_ok M (by omega) (hb.mp rfl) ?_
          walk_at "go"
          exact hK
      walk_at "go"
      exact ⟨_, _, _, hP, hds, rfl⟩
    · obtain ⟨x7, x8, x9, hP, hds, rfl⟩ := hw
      exact ⟨_, _, _, _, hP, hds, rfl⟩
  · obtain ⟨x6, x7, x8, x9, hP, hds, rfl⟩ := hw
    walk_at "go"
    rfl
end A_k33
namespace A_k33
open PySem PySem.Spec L2 AL
open PyProof.Rows (envOfC)
def topS (i : Nat) : Stmt := PySem.Challenge.pw_wordrules_k33_what_is_a_shortest.main.body.getD i (.Pass ⟨0, 0, 0, 0⟩)
abbrev st_is_whole : Stmt := topS 1
theorem sc_is_whole : FnScope ["thing"] ["thing"] (defScope st_is_whole) := ⟨rfl, rfl, rfl, by decide +kernel, rfl, by decide +kernel, by decide +kernel⟩
theorem ok_is_whole {P : Program} {w : World} {K : PySem.W.Frag} {mg : Str → Option Value} {base : Heap} {f : Addr} {fd : FuncData} (F : L2.Fun K "is_whole" "is_whole" st_is_whole f fd) (hm : mg "is_whole" = some (.ref f)) (hb : Binds K fd ["thing"] []) (m_bool : mg "bool" = none) (m_int : mg "int" = none) (m_isinstance : mg "isinstance" = none) : Cal P w K mg base 1 "is_whole" 1 s_is_whole := by
  refine calA (b := a_is_whole) F sc_is_whole rfl hm hb ?_ (fun _ _ _ _ h => h)
  intro cdv A outer s H E hr hgd
  have hw : (Bs.nil ⟨w, mg⟩).g = ⟨w, mg⟩ := rfl
  exact ⟨_, ass_one (as_ret (ae_and (K := K) (ae_isi (K := K) (ae_v 0) m_isinstance m_int (by decide +kernel)) (ae_one (ae_not (K := K) (ae_isi (K := K) (ae_v 0) m_isinstance m_bool (by decide +kernel))))))⟩
abbrev st_led : Stmt := topS 3
theorem sc_led : FnScope ["machine", "stand", "number"] ["machine", "stand", "number"] (defScope st_led) := ⟨rfl, rfl, rfl, by decide +kernel, rfl, by decide +kernel, by decide +kernel⟩
theorem ok_led {P : Program} {w : World} {K : PySem.W.Frag} {mg : Str → Option Value} {base : Heap} {f : Addr} {fd : FuncData} (F : L2.Fun K "led" "led" st_led f fd) (hm : mg "led" = some (.ref f)) (hb : Binds K fd ["machine", "stand", "number"] []) : Cal P w K mg base 1 "led" 3 s_led := by
  refine calA (b := a_led) F sc_led rfl hm hb ?_ (fun _ _ _ _ h => h)
  intro cdv A outer s H E hr hgd
  have hw : (Bs.nil ⟨w, mg⟩).g = ⟨w, mg⟩ := rfl
  exact ⟨_, ass_cons (as_if (at_cmp ao_is (ae_v 1) (ae_non))
      (ass_one (as_ret (ae_non)))
      (ass_nil))
      (ass_one (as_ret (ae_ix (K := K) (ae_ix (K := K) (ae_ix (K := K) (ae_v 0) (ae_int)) (ae_v 1)) (ae_v 2))))⟩
abbrev st_shut_in : Stmt := topS 10
theorem sc_shut_in : FnScope ["machine", "layers", "last", "stand", "among", "at", "goal"] ["machine", "layers", "last"] (defScope st_shut_in) := ⟨rfl, rfl, rfl, by decide +kernel, rfl, by decide +kernel, by decide +kernel⟩
theorem ok_shut_in {P : Program} {w : World} {K : PySem.W.Frag} {mg : Str → Option Value} {base : Heap} {f : Addr} {fd : FuncData} (F : L2.Fun K "shut_in" "shut_in" st_shut_in f fd) (hm : mg "shut_in" = some (.ref f)) (hb : Binds K fd ["machine", "layers", "last"] []) (m_all : mg "all" = none) (m_dict : mg "dict" = none) (m_len : mg "len" = none) (m_range : mg "range" = none) : Cal P w K mg base 1 "shut_in" 3 s_shut_in := by
  refine calA (b := a_shut_in) F sc_shut_in rfl hm hb ?_ (fun _ _ _ _ h => h)
  intro cdv A outer s H E hr hgd
  have hw : (Bs.nil ⟨w, mg⟩).g = ⟨w, mg⟩ := rfl
  exact ⟨_, ass_cons (as_set 4 sc_shut_in.nd (ae_callT (ac_dictP (K := K)) m_dict (by decide +kernel) (aa_cons (ae_lc [("stand", 3)] sc_shut_in.nd (ai_list (K := K) (ae_ix (K := K) (ae_v 1) (ae_int))) (blkOk_by (own := [("stand", 3)]) (N := ["machine", "layers", "last", "stand", "among", "at", "goal"]) (sc := defScope st_shut_in) (by decide +kernel)) (fun _ _ _ _ _ => ag_name 3 (vs := [3]) sc_shut_in.nd rfl (.inl rfl)) (fun _ _ _ _ _ => ats_nil) (fun _ _ _ _ _ => ae_tup (aa_cons (ae_v 3) (aa_cons (ae_bl) (aa_nil))))) (aa_nil))) rfl (.inr rfl))
      (ass_cons (as_for (ai_range1 m_range (aa_cons (ae_op (ao_add (K := K)) (ae_v 2) (ae_int)) (aa_nil))) (ag_name 5 (vs := [5]) sc_shut_in.nd rfl (.inl rfl))
      (ass_cons (as_if (at_cmp ao_lt (ae_op (ao_add (K := K)) (ae_v 5) (ae_int)) (ae_callB (ac_len (K := K)) m_len (by decide +kernel) (aa_cons (ae_v 1) (aa_nil))))
      (ass_one (as_for (ai_list (K := K) (ae_ix (K := K) (ae_v 1) (ae_op (ao_add (K := K)) (ae_v 5) (ae_int)))) (ag_name 3 (vs := [3]) sc_shut_in.nd rfl (.inl rfl))
      (ass_one (as_putK (hu_of hr) (ae_v 4) (ae_v 3) (ae_bl)))))
      (ass_nil))
      (ass_one (as_for (ai_list (K := K) (ae_ix (K := K) (ae_v 1) (ae_v 5))) (ag_name 3 (vs := [3]) sc_shut_in.nd rfl (.inl rfl))
      (ass_one (as_if (aw_t (aw_or (at_tru (K := K) (ae_ix (K := K) (ae_ix (K := K) (ae_v 0) (ae_int)) (ae_v 3))) (aw_or1 (at_not (at_tru (K := K) (ae_callB (ac_all (K := K)) m_all (by decide +kernel) (aa_cons (ae_lc [("goal", 6)] sc_shut_in.nd (ai_list (K := K) (ae_ix (K := K) (ae_ix (K := K) (ae_v 0) (ae_int)) (ae_v 3))) (blkOk_by (own := [("goal", 6)]) (N := ["machine", "layers", "last", "stand", "among", "at", "goal"]) (sc := defScope st_shut_in) (by decide +kernel)) (fun _ _ _ _ _ => ag_name 6 (vs := [6]) sc_shut_in.nd rfl (.inl rfl)) (fun _ _ _ _ _ => ats_nil) (fun _ _ _ _ _ => ae_or (K := K) (ae_cmp ao_is (ae_v 6) (ae_non)) (ae_one (ae_inK (hu_of hr) (ae_v 6) (ae_v 4))))) (aa_nil))))))))
      (ass_one (as_ret (ae_bl)))
      (ass_nil)))))))
      (ass_one (as_ret (ae_bl))))⟩
abbrev st_law_pen : Stmt := topS 13
theorem sc_law_pen : FnScope ["_law_script", "_law_first"] ["_law_script", "_law_first"] (defScope st_law_pen) := ⟨rfl, rfl, rfl, by decide +kernel, rfl, by decide +kernel, by decide +kernel⟩
theorem ok_law_pen {P : Program} {w : World} {K : PySem.W.Frag} {mg : Str → Option Value} {base : Heap} {f : Addr} {fd : FuncData} (F : L2.Fun K "_law_pen" "_law_pen" st_law_pen f fd) (hm : mg "_law_pen" = some (.ref f)) (hb : Binds K fd ["_law_script", "_law_first"] []) : Cal P w K mg base 1 "_law_pen" 2 s_law_pen := by
  refine calA (b := a_law_pen) F sc_law_pen rfl hm hb ?_ (fun _ _ _ _ h => h)
  intro cdv A outer s H E hr hgd
  have hw : (Bs.nil ⟨w, mg⟩).g = ⟨w, mg⟩ := rfl
  exact ⟨_, ass_one (as_ret (ae_disp (aps_str (ae_v 0) (aps_str (ae_v 1) (aps_str (ae_int) (aps_nil))))))⟩
abbrev st_law_mixed : Stmt := topS 14
theorem sc_law_mixed : FnScope ["_law_cell", "_law_k", "_law_one", "_law_two"] ["_law_cell", "_law_k"] (defScope st_law_mixed) := ⟨rfl, rfl, rfl, by decide +kernel, rfl, by decide +kernel, by decide +kernel⟩
theorem ok_law_mixed {P : Program} {w : World} {K : PySem.W.Frag} {mg : Str → Option Value} {base : Heap} {f : Addr} {fd : FuncData} (F : L2.Fun K "_law_mixed" "_law_mixed" st_law_mixed f fd) (hm : mg "_law_mixed" = some (.ref f)) (hb : Binds K fd ["_law_cell", "_law_k"] []) : Cal P w K mg base 1 "_law_mixed" 2 s_law_mixed := by
  refine calA (b := a_law_mixed) F sc_law_mixed rfl hm hb ?_ (fun _ _ _ _ h => h)
  intro cdv A outer s H E hr hgd
  have hw : (Bs.nil ⟨w, mg⟩).g = ⟨w, mg⟩ := rfl
  exact ⟨_, ass_cons (as_set 2 sc_law_mixed.nd (ae_op ao_mod (ae_op ao_mul (ae_op (ao_add (K := K)) (ae_op (ao_add (K := K)) (ae_op ao_mod (ae_v 0) (ae_int)) (ae_op ao_mul (ae_int) (ae_v 1))) (ae_int)) (ae_int)) (ae_int)) rfl (.inl rfl))
      (ass_cons (as_set 3 sc_law_mixed.nd (ae_op ao_mod (ae_op (ao_add (K := K)) (ae_op (ao_add (K := K)) (ae_op ao_mul (ae_v 2) (ae_v 2)) (ae_op ao_mul (ae_int) (ae_v 2))) (ae_v 1)) (ae_int)) rfl (.inl rfl))
      (ass_one (as_ret (ae_op ao_div (ae_op ao_mod (ae_op (ao_add (K := K)) (ae_op (ao_add (K := K)) (ae_op ao_mul (ae_v 3) (ae_v 3)) (ae_op ao_mul (ae_int) (ae_v 3))) (ae_op ao_mul (ae_int) (ae_v 1))) (ae_int)) (ae_int)))))⟩
abbrev st_law_table : Stmt := topS 20
theorem sc_law_table : FnScope ["_law_machine_here", "_law_most", "_law_lists_here", "_law_ahead", "_law_one", "_law_row", "_law_goal_here"] ["_law_machine_here", "_law_most"] (defScope st_law_table) := ⟨rfl, rfl, rfl, by decide +kernel, rfl, by decide +kernel, by decide +kernel⟩
theorem ok_law_table {P : Program} {w : World} {K : PySem.W.Frag} {mg : Str → Option Value} {base : Heap} {f : Addr} {fd : FuncData} (F : L2.Fun K "_law_table" "_law_table" st_law_table f fd) (hm : mg "_law_table" = some (.ref f)) (hb : Binds K fd ["_law_machine_here", "_law_most"] []) (m_int : mg "int" = none) (m_len : mg "len" = none) (m_sum : mg "sum" = none) : Cal P w K mg base 1 "_law_table" 2 s_law_table := by
  refine calA (b := a_law_table) F sc_law_table rfl hm hb ?_ (fun _ _ _ _ h => h)
  intro cdv A outer s H E hr hgd
  have hw : (Bs.nil ⟨w, mg⟩).g = ⟨w, mg⟩ := rfl
  exact ⟨_, ass_cons (as_set 2 sc_law_table.nd (ae_lstM (aa_cons (ae_lc [("_law_one", 4)] sc_law_table.nd (ai_list (K := K) (ae_ix (K := K) (ae_v 0) (ae_int))) (blkOk_by (own := [("_law_one", 4)]) (N := ["_law_machine_here", "_law_most", "_law_lists_here", "_law_ahead", "_law_one", "_law_row", "_law_goal_here"]) (sc := defScope st_law_table) (by decide +kernel)) (fun _ _ _ _ _ => ag_name 4 (vs := [4]) sc_law_table.nd rfl (.inl rfl)) (fun _ _ _ _ _ => ats_nil) (fun _ _ _ _ _ => ae_callT ac_int m_int (by decide +kernel) (aa_cons (ae_v 4) (aa_nil)))) (aa_nil))) rfl (.inl rfl))
      (ass_cons (as_while (at_cmp ao_le (ae_callB (ac_len (K := K)) m_len (by decide +kernel) (aa_cons (ae_v 2) (aa_nil))) (ae_v 1))
      (ass_cons (as_set 3 sc_law_table.nd (ae_ix (K := K) (ae_v 2) (ae_neg (ae_int))) rfl (.inr rfl))
      (ass_one (as_expr (ae_meth (K := K) PySem.F.plainAttrs_list PySem.F.slot_list_append PySem.F.type_list_append am_append (ae_v 2) (aa_cons (ae_lc [("_law_row", 5)] sc_law_table.nd (ai_list (K := K) (ae_ix (K := K) (ae_v 0) (ae_int))) (blkOk_by (own := [("_law_row", 5)]) (N := ["_law_machine_here", "_law_most", "_law_lists_here", "_law_ahead", "_law_one", "_law_row", "_law_goal_here"]) (sc := defScope st_law_table) (by decide +kernel)) (fun _ _ _ _ _ => ag_name 5 (vs := [5]) sc_law_table.nd rfl (.inl rfl)) (fun _ _ _ _ _ => ats_nil) (fun _ _ _ _ _ => ae_callB (ac_sum (K := K)) m_sum (by decide +kernel) (aa_cons (ae_lc [("_law_goal_here", 6)] sc_law_table.nd (ai_list (K := K) (ae_v 5)) (blkOk_by rfl) (fun _ _ _ _ _ => ag_name 6 (vs := [6]) sc_law_table.nd rfl (.inl rfl)) (fun _ _ _ _ _ => ats_one (at_cmp ao_isnot (ae_v 6) (ae_non))) (fun _ _ _ _ _ => ae_ix (K := K) (ae_v 3) (ae_v 6))) (aa_nil)))) (aa_nil)))))))
      (ass_frz 2 (ass_one (as_ret (ae_v 2)))))⟩
abbrev st_law_gone : Stmt := topS 21
theorem sc_law_gone : FnScope ["_law_machine_here", "_law_stand", "_law_row", "_law_number"] ["_law_machine_here", "_law_stand", "_law_row"] (defScope st_law_gone) := ⟨rfl, rfl, rfl, by decide +kernel, rfl, by decide +kernel, by decide +kernel⟩
theorem ok_law_gone {P : Program} {w : World} {K : PySem.W.Frag} {mg : Str → Option Value} {base : Heap} {f : Addr} {fd : FuncData} (F : L2.Fun K "_law_gone" "_law_gone" st_law_gone f fd) (hm : mg "_law_gone" = some (.ref f)) (hb : Binds K fd ["_law_machine_here", "_law_stand", "_law_row"] []) : Cal P w K mg base 1 "_law_gone" 3 s_law_gone := by
  refine calA (b := a_law_gone) F sc_law_gone rfl hm hb ?_ (fun _ _ _ _ h => h)
  intro cdv A outer s H E hr hgd
  have hw : (Bs.nil ⟨w, mg⟩).g = ⟨w, mg⟩ := rfl
  exact ⟨_, ass_cons (as_for (ai_list (K := K) (ae_v 2)) (ag_name 3 (vs := [3]) sc_law_gone.nd rfl (.inl rfl))
      (ass_one (as_if (at_cmp ao_isnot (ae_v 1) (ae_non))
      (ass_one (as_set 1 sc_law_gone.nd (ae_ix (K := K) (ae_ix (K := K) (ae_ix (K := K) (ae_v 0) (ae_int)) (ae_v 1)) (ae_v 3)) rfl (.inl rfl)))
      (ass_nil))))
      (ass_one (as_ret (ae_v 1)))⟩
abbrev st_law_due : Stmt := topS 23
theorem sc_law_due : FnScope ["_law_machine_here", "_law_rows", "_law_wait", "_law_at", "_law_here", "_law_number", "_law_goal_here", "_law_ends", "_law_longest", "_law_layers", "_law_size", "_law_stand"] ["_law_machine_here"] (defScope st_law_due) := ⟨rfl, rfl, rfl, by decide +kernel, rfl, by decide +kernel, by decide +kernel⟩
theorem ok_law_due {P : Program} {w : World} {K : PySem.W.Frag} {mg : Str → Option Value} {base : Heap} {f : Addr} {fd : FuncData} (F : L2.Fun K "_law_due" "_law_due" st_law_due f fd) (hm : mg "_law_due" = some (.ref f)) (hb : Binds K fd ["_law_machine_here"] []) (m_enumerate : mg "enumerate" = none) (m_len : mg "len" = none) (m_max : mg "max" = none) (m_range : mg "range" = none) (m_sorted : mg "sorted" = none) : Cal P w K mg base 1 "_law_due" 1 s_law_due := by
  refine calA (b := a_law_due) F sc_law_due rfl hm hb ?_ (fun _ _ _ _ h => h)
  intro cdv A outer s H E hr hgd
  have hw : (Bs.nil ⟨w, mg⟩).g = ⟨w, mg⟩ := rfl
  exact ⟨_, ass_cons (as_set 1 sc_law_due.nd (ae_disp (aps_int (ae_lst (aa_nil)) (aps_nil))) rfl (.inr rfl))
      (ass_cons (as_set 2 sc_law_due.nd (ae_lstM (aa_cons (ae_int) (aa_nil))) rfl (.inl rfl))
      (ass_cons (as_set 3 sc_law_due.nd (ae_int) rfl (.inl rfl))
      (ass_cons (as_while (at_cmp ao_lt (ae_v 3) (ae_callB (ac_len (K := K)) m_len (by decide +kernel) (aa_cons (ae_v 2) (aa_nil))))
      (ass_cons (as_set 4 sc_law_due.nd (ae_ix (K := K) (ae_v 2) (ae_v 3)) rfl (.inl rfl))
      (ass_cons (as_for (ai_enum (K := K) m_enumerate (aa_cons (ae_ix (K := K) (ae_ix (K := K) (ae_v 0) (ae_int)) (ae_v 4)) (aa_nil))) (ag_tup (K := K) (ags_cons (ag_name 5 (vs := [5, 6]) sc_law_due.nd rfl (.inl rfl)) (ags_cons (ag_name 6 (vs := [5, 6]) sc_law_due.nd rfl (.inl rfl)) (ags_nil))))
      (ass_one (as_if (aw_t (aw_and (at_cmp ao_isnot (ae_v 6) (ae_non)) (aw_and1 (at_notInK (hu_of hr) (ae_v 6) (ae_v 1)))))
      (ass_cons (as_putK (hu_of hr) (ae_v 1) (ae_v 6) (ae_op (ao_add (K := K)) (ae_getK (hu_of hr) (ae_v 1) (ae_v 4)) (ae_lst (aa_cons (ae_v 5) (aa_nil)))))
      (ass_one (as_expr (ae_meth (K := K) PySem.F.plainAttrs_list PySem.F.slot_list_append PySem.F.type_list_append am_append (ae_v 2) (aa_cons (ae_v 6) (aa_nil))))))
      (ass_nil))))
      (ass_one (as_set 3 sc_law_due.nd (ae_op (ao_add (K := K)) (ae_v 3) (ae_int)) rfl (.inl rfl))))))
      (ass_frz 1 (ass_frz 2 (ass_cons (as_setLc 7 [("_law_stand", 11)] sc_law_due.nd (ai_list (K := K) (ae_v 2)) (sw_true rfl rfl rfl (by decide +kernel)) (blkOk_by (own := [("_law_stand", 11)]) (N := ["_law_machine_here", "_law_rows", "_law_wait", "_law_at", "_law_here", "_law_number", "_law_goal_here", "_law_ends", "_law_longest", "_law_layers", "_law_size", "_law_stand"]) (sc := defScope st_law_due) (by decide +kernel)) (fun _ _ _ _ _ => ag_name 11 (vs := [11]) sc_law_due.nd rfl (.inl rfl)) (fun _ _ _ _ _ => ats_one (at_tru (K := K) (ae_ix (K := K) (ae_ix (K := K) (ae_v 0) (ae_int)) (ae_v 11)))) (fun _ _ _ _ _ => ae_v 11))
      (ass_cons (as_set 8 sc_law_due.nd (ae_callB (ac_maxL (K := K)) m_max (by decide +kernel) (aa_cons (ae_lc [("_law_stand", 11)] sc_law_due.nd (ai_list (K := K) (ae_v 2)) (blkOk_by (own := [("_law_stand", 11)]) (N := ["_law_machine_here", "_law_rows", "_law_wait", "_law_at", "_law_here", "_law_number", "_law_goal_here", "_law_ends", "_law_longest", "_law_layers", "_law_size", "_law_stand"]) (sc := defScope st_law_due) (by decide +kernel)) (fun _ _ _ _ _ => ag_name 11 (vs := [11]) sc_law_due.nd rfl (.inl rfl)) (fun _ _ _ _ _ => ats_nil) (fun _ _ _ _ _ => ae_callB (ac_len (K := K)) m_len (by decide +kernel) (aa_cons (ae_getK (hu_of hr) (ae_v 1) (ae_v 11)) (aa_nil)))) (aa_nil))) rfl (.inl rfl))
      (ass_cons (as_if (at_cmp (ao_ne (K := K) hr.units) (ae_v 7) (ae_lst (aa_nil)))
      (ass_one (as_set 8 sc_law_due.nd (ae_callB (ac_len (K := K)) m_len (by decide +kernel) (aa_cons (ae_getK (hu_of hr) (ae_v 1) (ae_ix (K := K) (ae_v 7) (ae_int))) (aa_nil))) rfl (.inl rfl)))
      (ass_nil))
      (ass_cons (as_set 9 sc_law_due.nd (ae_lstM (aa_nil)) rfl (.inl rfl))
      (ass_cons (as_for (ai_range1 m_range (aa_cons (ae_op (ao_add (K := K)) (ae_v 8) (ae_int)) (aa_nil))) (ag_name 10 (vs := [10]) sc_law_due.nd rfl (.inr rfl))
      (ass_one (as_expr (ae_meth (K := K) PySem.F.plainAttrs_list PySem.F.slot_list_append PySem.F.type_list_append am_append (ae_v 9) (aa_cons (ae_callB (ac_sortL (K := K)) m_sorted (by decide +kernel) (aa_cons (ae_lc [("_law_stand", 11)] sc_law_due.nd (ai_list (K := K) (ae_v 2)) (blkOk_by (own := [("_law_stand", 11)]) (N := ["_law_machine_here", "_law_rows", "_law_wait", "_law_at", "_law_here", "_law_number", "_law_goal_here", "_law_ends", "_law_longest", "_law_layers", "_law_size", "_law_stand"]) (sc := defScope st_law_due) (by decide +kernel)) (fun _ _ _ _ _ => ag_name 11 (vs := [11]) sc_law_due.nd rfl (.inl rfl)) (fun _ _ _ _ _ => ats_one (at_cmp (ao_eq (K := K) hr.units) (ae_callB (ac_len (K := K)) m_len (by decide +kernel) (aa_cons (ae_getK (hu_of hr) (ae_v 1) (ae_v 11)) (aa_nil))) (ae_v 10))) (fun _ _ _ _ _ => ae_v 11)) (aa_nil))) (aa_nil))))))
      (ass_frz 9 (ass_cons (as_if (at_cmp (ao_eq (K := K) hr.units) (ae_v 7) (ae_lst (aa_nil)))
      (ass_one (as_ret (ae_tup (aa_cons (ae_str) (aa_cons (ae_v 9) (aa_nil))))))
      (ass_nil))
      (ass_one (as_ret (ae_tup (aa_cons (ae_str) (aa_cons (ae_getK (hu_of hr) (ae_v 1) (ae_ix (K := K) (ae_v 7) (ae_int))) (aa_cons (ae_v 9) (aa_nil)))))))))))))))))))⟩
abbrev st_law_stands : Stmt := topS 24
theorem sc_law_stands : FnScope ["_law_machine_here", "_law_thing", "_law_one"] ["_law_machine_here", "_law_thing"] (defScope st_law_stands) := ⟨rfl, rfl, rfl, by decide +kernel, rfl, by decide +kernel, by decide +kernel⟩
theorem ok_law_stands {P : Program} {w : World} {K : PySem.W.Frag} {mg : Str → Option Value} {base : Heap} {f : Addr} {fd : FuncData} (F : L2.Fun K "_law_stands" "_law_stands" st_law_stands f fd) (hm : mg "_law_stands" = some (.ref f)) (hb : Binds K fd ["_law_machine_here", "_law_thing"] []) (m_bool : mg "bool" = none) (m_int : mg "int" = none) (m_isinstance : mg "isinstance" = none) (m_len : mg "len" = none) (m_list : mg "list" = none) : Cal P w K mg base 1 "_law_stands" 2 s_law_stands := by
  refine calA (b := a_law_stands) F sc_law_stands rfl hm hb ?_ (fun _ _ _ _ h => h)
  intro cdv A outer s H E hr hgd
  have hw : (Bs.nil ⟨w, mg⟩).g = ⟨w, mg⟩ := rfl
  exact ⟨_, ass_cons (as_if (at_not (at_tru (K := K) (ae_isi (K := K) (ae_v 1) m_isinstance m_list (by decide +kernel))))
      (ass_one (as_ret (ae_bl)))
      (ass_nil))
      (ass_cons (as_for (ai_list (K := K) (ae_v 1)) (ag_name 2 (vs := [2]) sc_law_stands.nd rfl (.inl rfl))
      (ass_one (as_if (aw_t (aw_or (at_not (at_tru (K := K) (ae_isi (K := K) (ae_v 2) m_isinstance m_int (by decide +kernel)))) (aw_or (at_tru (K := K) (ae_isi (K := K) (ae_v 2) m_isinstance m_bool (by decide +kernel))) (aw_or1 (at_not (at_chain ao_le ao_lt (ae_int) (ae_v 2) (ae_callB (ac_len (K := K)) m_len (by decide +kernel) (aa_cons (ae_ix (K := K) (ae_v 0) (ae_int)) (aa_nil)))))))))
      (ass_one (as_ret (ae_bl)))
      (ass_nil))))
      (ass_one (as_ret (ae_bl))))⟩
abbrev st_law_leads : Stmt := topS 25
theorem sc_law_leads : FnScope ["_law_machine_here", "_law_stand", "_law_among", "_law_goal_here"] ["_law_machine_here", "_law_stand", "_law_among"] (defScope st_law_leads) := ⟨rfl, rfl, rfl, by decide +kernel, rfl, by decide +kernel, by decide +kernel⟩
theorem ok_law_leads {P : Program} {w : World} {K : PySem.W.Frag} {mg : Str → Option Value} {base : Heap} {f : Addr} {fd : FuncData} (F : L2.Fun K "_law_leads" "_law_leads" st_law_leads f fd) (hm : mg "_law_leads" = some (.ref f)) (hb : Binds K fd ["_law_machine_here", "_law_stand", "_law_among"] []) (m_all : mg "all" = none) : Cal P w K mg base 1 "_law_leads" 3 s_law_leads := by
  refine calA (b := a_law_leads) F sc_law_leads rfl hm hb ?_ (fun _ _ _ _ h => h)
  intro cdv A outer s H E hr hgd
  have hw : (Bs.nil ⟨w, mg⟩).g = ⟨w, mg⟩ := rfl
  exact ⟨_, ass_cons (as_if (at_tru (K := K) (ae_ix (K := K) (ae_ix (K := K) (ae_v 0) (ae_int)) (ae_v 1)))
      (ass_one (as_ret (ae_bl)))
      (ass_nil))
      (ass_one (as_ret (ae_callB (ac_all (K := K)) m_all (by decide +kernel) (aa_cons (ae_lc [("_law_goal_here", 3)] sc_law_leads.nd (ai_list (K := K) (ae_ix (K := K) (ae_ix (K := K) (ae_v 0) (ae_int)) (ae_v 1))) (blkOk_by (own := [("_law_goal_here", 3)]) (N := ["_law_machine_here", "_law_stand", "_law_among", "_law_goal_here"]) (sc := defScope st_law_leads) (by decide +kernel)) (fun _ _ _ _ _ => ag_name 3 (vs := [3]) sc_law_leads.nd rfl (.inl rfl)) (fun _ _ _ _ _ => ats_nil) (fun _ _ _ _ _ => ae_or (K := K) (ae_cmp ao_is (ae_v 3) (ae_non)) (ae_one (ae_cmp ao_inL (ae_v 3) (ae_v 2))))) (aa_nil)))))⟩
abbrev st_law_row_to : Stmt := topS 28
theorem sc_law_row_to : FnScope ["_law_machine_here", "_law_start", "_law_goals", "_law_rows", "_law_seen", "_law_at", "_law_stand", "_law_row", "_law_number", "_law_goal_here"] ["_law_machine_here", "_law_start", "_law_goals"] (defScope st_law_row_to) := ⟨rfl, rfl, rfl, by decide +kernel, rfl, by decide +kernel, by decide +kernel⟩
theorem ok_law_row_to {P : Program} {w : World} {K : PySem.W.Frag} {mg : Str → Option Value} {base : Heap} {f : Addr} {fd : FuncData} (F : L2.Fun K "_law_row_to" "_law_row_to" st_law_row_to f fd) (hm : mg "_law_row_to" = some (.ref f)) (hb : Binds K fd ["_law_machine_here", "_law_start", "_law_goals"] []) (m_enumerate : mg "enumerate" = none) (m_len : mg "len" = none) : Cal P w K mg base 1 "_law_row_to" 3 s_law_row_to := by
  refine calA (b := a_law_row_to) F sc_law_row_to rfl hm hb ?_ (fun _ _ _ _ h => h)
  intro cdv A outer s H E hr hgd
  have hw : (Bs.nil ⟨w, mg⟩).g = ⟨w, mg⟩ := rfl
  exact ⟨_, ass_cons (as_set 3 sc_law_row_to.nd (ae_lstM (aa_cons (ae_tup (aa_cons (ae_v 1) (aa_cons (ae_lst (aa_nil)) (aa_nil)))) (aa_nil))) rfl (.inl rfl))
      (ass_cons (as_set 4 sc_law_row_to.nd (ae_dispV (ae_v 1) (ae_bl)) rfl (.inl rfl))
      (ass_cons (as_set 5 sc_law_row_to.nd (ae_int) rfl (.inl rfl))
      (ass_cons (as_while (at_cmp ao_lt (ae_v 5) (ae_callB (ac_len (K := K)) m_len (by decide +kernel) (aa_cons (ae_v 3) (aa_nil))))
      (ass_cons (as_asg (ae_ix (K := K) (ae_v 3) (ae_v 5)) (ag_tup (K := K) (ags_cons (ag_name 6 (vs := [6, 7]) sc_law_row_to.nd rfl (.inl rfl)) (ags_cons (ag_name 7 (vs := [6, 7]) sc_law_row_to.nd rfl (.inl rfl)) (ags_nil)))))
      (ass_cons (as_if (at_cmp ao_inL (ae_v 6) (ae_v 2))
      (ass_one (as_ret (ae_v 7)))
      (ass_nil))
      (ass_cons (as_for (ai_enum (K := K) m_enumerate (aa_cons (ae_ix (K := K) (ae_ix (K := K) (ae_v 0) (ae_int)) (ae_v 6)) (aa_nil))) (ag_tup (K := K) (ags_cons (ag_name 8 (vs := [8, 9]) sc_law_row_to.nd rfl (.inl rfl)) (ags_cons (ag_name 9 (vs := [8, 9]) sc_law_row_to.nd rfl (.inl rfl)) (ags_nil))))
      (ass_one (as_if (aw_t (aw_and (at_cmp ao_isnot (ae_v 9) (ae_non)) (aw_and1 (at_notInK (hu_of hr) (ae_v 9) (ae_v 4)))))
      (ass_cons (as_putK (hu_of hr) (ae_v 4) (ae_v 9) (ae_bl))
      (ass_one (as_expr (ae_meth (K := K) PySem.F.plainAttrs_list PySem.F.slot_list_append PySem.F.type_list_append am_append (ae_v 3) (aa_cons (ae_tup (aa_cons (ae_v 9) (aa_cons (ae_op (ao_add (K := K)) (ae_v 7) (ae_lst (aa_cons (ae_v 8) (aa_nil)))) (aa_nil)))) (aa_nil))))))
      (ass_nil))))
      (ass_one (as_set 5 sc_law_row_to.nd (ae_op (ao_add (K := K)) (ae_v 5) (ae_int)) rfl (.inl rfl)))))))
      (ass_one (as_ret (ae_non))))))⟩
abbrev st_law_true : Stmt := topS 33
theorem sc_law_true : FnScope ["_law_lists_here", "_law_thing", "_law_some"] ["_law_lists_here", "_law_thing"] (defScope st_law_true) := ⟨rfl, rfl, rfl, by decide +kernel, rfl, by decide +kernel, by decide +kernel⟩
theorem ok_law_true {P : Program} {w : World} {K : PySem.W.Frag} {mg : Str → Option Value} {base : Heap} {f : Addr} {fd : FuncData} (F : L2.Fun K "_law_true" "_law_true" st_law_true f fd) (hm : mg "_law_true" = some (.ref f)) (hb : Binds K fd ["_law_lists_here", "_law_thing"] []) (m_all : mg "all" = none) (m_len : mg "len" = none) : Cal P w K mg base 1 "_law_true" 2 s_law_true := by
  refine calA (b := a_law_true) F sc_law_true rfl hm hb ?_ (fun _ _ _ _ h => h)
  intro cdv A outer s H E hr hgd
  have hw : (Bs.nil ⟨w, mg⟩).g = ⟨w, mg⟩ := rfl
  exact ⟨_, ass_cons (as_if (at_cmp (ao_eq (K := K) hr.units) (ae_ix (K := K) (ae_v 1) (ae_int)) (ae_str))
      (ass_one (as_ret (ae_callB (ac_all (K := K)) m_all (by decide +kernel) (aa_cons (ae_lc [("_law_some", 2)] sc_law_true.nd (ai_list (K := K) (ae_v 0)) (blkOk_by (own := [("_law_some", 2)]) (N := ["_law_lists_here", "_law_thing", "_law_some"]) (sc := defScope st_law_true) (by decide +kernel)) (fun _ _ _ _ _ => ag_name 2 (vs := [2]) sc_law_true.nd rfl (.inl rfl)) (fun _ _ _ _ _ => ats_nil) (fun _ _ _ _ _ => ae_cmp (ao_eq (K := K) hr.units) (ae_ix (K := K) (ae_v 2) (ae_int)) (ae_int))) (aa_nil)))))
      (ass_nil))
      (ass_one (as_ret (ae_callB (ac_all (K := K)) m_all (by decide +kernel) (aa_cons (ae_lc [("_law_some", 2)] sc_law_true.nd (ai_list (K := K) (ae_cut (K := K) (ae_v 0) ao_none (ao_some (ae_callB (ac_len (K := K)) m_len (by decide +kernel) (aa_cons (ae_ix (K := K) (ae_v 1) (ae_int)) (aa_nil)))))) (blkOk_by (own := [("_law_some", 2)]) (N := ["_law_lists_here", "_law_thing", "_law_some"]) (sc := defScope st_law_true) (by decide +kernel)) (fun _ _ _ _ _ => ag_name 2 (vs := [2]) sc_law_true.nd rfl (.inl rfl)) (fun _ _ _ _ _ => ats_nil) (fun _ _ _ _ _ => ae_cmp (ao_eq (K := K) hr.units) (ae_ix (K := K) (ae_v 2) (ae_int)) (ae_int))) (aa_nil)))))⟩
abbrev st_gone : Stmt := topS 4
theorem sc_gone : FnScope ["machine", "stand", "row", "here", "number"] ["machine", "stand", "row"] (defScope st_gone) := ⟨rfl, rfl, rfl, by decide +kernel, rfl, by decide +kernel, by decide +kernel⟩
theorem ok_gone {P : Program} {w : World} {K : PySem.W.Frag} {mg : Str → Option Value} {base : Heap} {f : Addr} {fd : FuncData} (F : L2.Fun K "gone" "gone" st_gone f fd) (hm : mg "gone" = some (.ref f)) (hb : Binds K fd ["machine", "stand", "row"] []) (c_led : Cal P w K mg base 1 "led" 3 s_led) : Cal P w K mg base 2 "gone" 3 s_gone := by
  refine calA (b := a_gone) F sc_gone rfl hm hb ?_ (fun _ _ _ _ h => h)
  intro cdv A outer s H E hr hgd
  have hw : (Bs.nil ⟨w, mg⟩).g = ⟨w, mg⟩ := rfl
  exact ⟨_, ass_cons (as_set 3 sc_gone.nd (ae_v 1) rfl (.inl rfl))
      (ass_cons (as_for (ai_list (K := K) (ae_v 2)) (ag_name 4 (vs := [4]) sc_gone.nd rfl (.inl rfl))
      (ass_one (as_set 3 sc_gone.nd (ae_call (K := K) (g := ⟨w, mg⟩) c_led hr hgd (aa_cons (ae_v 0) (aa_cons (ae_v 3) (aa_cons (ae_v 4) (aa_nil))))) rfl (.inl rfl))))
      (ass_one (as_ret (ae_v 3))))⟩
abbrev st_is_row : Stmt := topS 7
theorem sc_is_row : FnScope ["machine", "thing", "many", "one"] ["machine", "thing"] (defScope st_is_row) := ⟨rfl, rfl, rfl, by decide +kernel, rfl, by decide +kernel, by decide +kernel⟩
theorem ok_is_row {P : Program} {w : World} {K : PySem.W.Frag} {mg : Str → Option Value} {base : Heap} {f : Addr} {fd : FuncData} (F : L2.Fun K "is_row" "is_row" st_is_row f fd) (hm : mg "is_row" = some (.ref f)) (hb : Binds K fd ["machine", "thing"] []) (m_all : mg "all" = none) (m_isinstance : mg "isinstance" = none) (m_len : mg "len" = none) (m_list : mg "list" = none) (c_is_whole : Cal P w K mg base 1 "is_whole" 1 s_is_whole) : Cal P w K mg base 2 "is_row" 2 s_is_row := by
  refine calA (b := a_is_row) F sc_is_row rfl hm hb ?_ (fun _ _ _ _ h => h)
  intro cdv A outer s H E hr hgd
  have hw : (Bs.nil ⟨w, mg⟩).g = ⟨w, mg⟩ := rfl
  exact ⟨_, ass_cons (as_set 2 sc_is_row.nd (ae_callB (ac_len (K := K)) m_len (by decide +kernel) (aa_cons (ae_ix (K := K) (ae_ix (K := K) (ae_v 0) (ae_int)) (ae_int)) (aa_nil))) rfl (.inr rfl))
      (ass_one (as_ret (ae_and (K := K) (ae_isi (K := K) (ae_v 1) m_isinstance m_list (by decide +kernel)) (ae_one (ae_callB (ac_all (K := K)) m_all (by decide +kernel) (aa_cons (ae_lc [("one", 3)] sc_is_row.nd (ai_list (K := K) (ae_v 1)) (blkOk_by (own := [("one", 3)]) (N := ["machine", "thing", "many", "one"]) (sc := defScope st_is_row) (by decide +kernel)) (fun _ _ _ _ _ => ag_name 3 (vs := [3]) sc_is_row.nd rfl (.inl rfl)) (fun _ _ _ _ _ => ats_nil) (fun _ _ _ _ _ => ae_and (K := K) (ae_call (K := K) (g := ⟨w, mg⟩) c_is_whole hr hgd (aa_cons (ae_v 3) (aa_nil))) (ae_one (ae_chain ao_le ao_lt (ae_int) (ae_v 3) (ae_v 2))))) (aa_nil)))))))⟩
abbrev st_are_layers : Stmt := topS 9
theorem sc_are_layers : FnScope ["machine", "thing", "some", "one"] ["machine", "thing"] (defScope st_are_layers) := ⟨rfl, rfl, rfl, by decide +kernel, rfl, by decide +kernel, by decide +kernel⟩
theorem ok_are_layers {P : Program} {w : World} {K : PySem.W.Frag} {mg : Str → Option Value} {base : Heap} {f : Addr} {fd : FuncData} (F : L2.Fun K "are_layers" "are_layers" st_are_layers f fd) (hm : mg "are_layers" = some (.ref f)) (hb : Binds K fd ["machine", "thing"] []) (m_all : mg "all" = none) (m_isinstance : mg "isinstance" = none) (m_len : mg "len" = none) (m_list : mg "list" = none) (c_is_whole : Cal P w K mg base 1 "is_whole" 1 s_is_whole) : Cal P w K mg base 2 "are_layers" 2 s_are_layers := by
  refine calA (b := a_are_layers) F sc_are_layers rfl hm hb ?_ (fun _ _ _ _ h => h)
  intro cdv A outer s H E hr hgd
  have hw : (Bs.nil ⟨w, mg⟩).g = ⟨w, mg⟩ := rfl
  exact ⟨_, ass_cons (as_if (aw_t (aw_or (at_not (at_tru (K := K) (ae_isi (K := K) (ae_v 1) m_isinstance m_list (by decide +kernel)))) (aw_or1 (at_cmp (ao_eq (K := K) hr.units) (ae_callB (ac_len (K := K)) m_len (by decide +kernel) (aa_cons (ae_v 1) (aa_nil))) (ae_int)))))
      (ass_one (as_ret (ae_bl)))
      (ass_nil))
      (ass_cons (as_for (ai_list (K := K) (ae_v 1)) (ag_name 2 (vs := [2]) sc_are_layers.nd rfl (.inl rfl))
      (ass_one (as_if (aw_t (aw_or (at_not (at_tru (K := K) (ae_isi (K := K) (ae_v 2) m_isinstance m_list (by decide +kernel)))) (aw_or1 (at_not (at_tru (K := K) (ae_callB (ac_all (K := K)) m_all (by decide +kernel) (aa_cons (ae_lc [("one", 3)] sc_are_layers.nd (ai_list (K := K) (ae_v 2)) (blkOk_by (own := [("one", 3)]) (N := ["machine", "thing", "some", "one"]) (sc := defScope st_are_layers) (by decide +kernel)) (fun _ _ _ _ _ => ag_name 3 (vs := [3]) sc_are_layers.nd rfl (.inl rfl)) (fun _ _ _ _ _ => ats_nil) (fun _ _ _ _ _ => ae_and (K := K) (ae_call (K := K) (g := ⟨w, mg⟩) c_is_whole hr hgd (aa_cons (ae_v 3) (aa_nil))) (ae_one (ae_chain ao_le ao_lt (ae_int) (ae_v 3) (ae_callB (ac_len (K := K)) m_len (by decide +kernel) (aa_cons (ae_ix (K := K) (ae_v 0) (ae_int)) (aa_nil))))))) (aa_nil))))))))
      (ass_one (as_ret (ae_bl)))
      (ass_nil))))
      (ass_one (as_ret (ae_cmp ao_inL (ae_int) (ae_ix (K := K) (ae_v 1) (ae_int))))))⟩
abbrev st_law_take : Stmt := topS 15
theorem sc_law_take : FnScope ["_law_pen_here", "_law_most", "_law_k", "_law_script", "_law_cell", "_law_got"] ["_law_pen_here", "_law_most"] (defScope st_law_take) := ⟨rfl, rfl, rfl, by decide +kernel, rfl, by decide +kernel, by decide +kernel⟩
theorem ok_law_take {P : Program} {w : World} {K : PySem.W.Frag} {mg : Str → Option Value} {base : Heap} {f : Addr} {fd : FuncData} (F : L2.Fun K "_law_take" "_law_take" st_law_take f fd) (hm : mg "_law_take" = some (.ref f)) (hb : Binds K fd ["_law_pen_here", "_law_most"] []) (m_abs : mg "abs" = none) (m_len : mg "len" = none) (c_law_mixed : Cal P w K mg base 1 "_law_mixed" 2 s_law_mixed) : Cal P w K mg base 2 "_law_take" 2 s_law_take := by
  refine calA (b := a_law_take) F sc_law_take rfl hm hb ?_ (fun _ _ _ _ h => h)
  intro cdv A outer s H E hr hgd
  have hw : (Bs.nil ⟨w, mg⟩).g = ⟨w, mg⟩ := rfl
  exact ⟨_, ass_cons (as_set 2 sc_law_take.nd (ae_getK (hu_of hr) (ae_v 0) (ae_str)) rfl (.inl rfl))
      (ass_cons (as_set 3 sc_law_take.nd (ae_getK (hu_of hr) (ae_v 0) (ae_str)) rfl (.inl rfl))
      (ass_cons (as_if (at_cmp (ao_eq (K := K) hr.units) (ae_getK (hu_of hr) (ae_v 0) (ae_str)) (ae_int))
      (ass_cons (as_putK (hu_of hr) (ae_v 0) (ae_str) (ae_op (ao_add (K := K)) (ae_v 2) (ae_int)))
      (ass_cons (as_set 4 sc_law_take.nd (ae_int) rfl (.inl rfl))
      (ass_cons (as_if (at_cmp ao_gt (ae_callB (ac_len (K := K)) m_len (by decide +kernel) (aa_cons (ae_v 3) (aa_nil))) (ae_int))
      (ass_one (as_set 4 sc_law_take.nd (ae_ix (K := K) (ae_v 3) (ae_op ao_mod (ae_v 2) (ae_callB (ac_len (K := K)) m_len (by decide +kernel) (aa_cons (ae_v 3) (aa_nil))))) rfl (.inl rfl)))
      (ass_nil))
      (ass_cons (as_if (aw_t (aw_or (at_cmp ao_ge (ae_v 2) (ae_callB (ac_len (K := K)) m_len (by decide +kernel) (aa_cons (ae_v 3) (aa_nil)))) (aw_or1 (at_cmp ao_lt (ae_callB ac_abs m_abs (by decide +kernel) (aa_cons (ae_v 4) (aa_nil))) (ae_op ao_pow (ae_int) (ae_int))))))
      (ass_one (as_ret (ae_op ao_mod (ae_call (K := K) (g := ⟨w, mg⟩) c_law_mixed hr hgd (aa_cons (ae_v 4) (aa_cons (ae_v 2) (aa_nil)))) (ae_v 1))))
      (ass_nil))
      (ass_one (as_putK (hu_of hr) (ae_v 0) (ae_str) (ae_callB ac_abs m_abs (by decide +kernel) (aa_cons (ae_v 4) (aa_nil)))))))))
      (ass_nil))
      (ass_cons (as_set 5 sc_law_take.nd (ae_op ao_mod (ae_getK (hu_of hr) (ae_v 0) (ae_str)) (ae_v 1)) rfl (.inl rfl))
      (ass_cons (as_putK (hu_of hr) (ae_v 0) (ae_str) (ae_op ao_div (ae_getK (hu_of hr) (ae_v 0) (ae_str)) (ae_v 1)))
      (ass_one (as_ret (ae_v 5)))))))⟩
abbrev st_law_lets : Stmt := topS 22
theorem sc_law_lets : FnScope ["_law_machine_here", "_law_row", "_law_stand"] ["_law_machine_here", "_law_row"] (defScope st_law_lets) := ⟨rfl, rfl, rfl, by decide +kernel, rfl, by decide +kernel, by decide +kernel⟩
theorem ok_law_lets {P : Program} {w : World} {K : PySem.W.Frag} {mg : Str → Option Value} {base : Heap} {f : Addr} {fd : FuncData} (F : L2.Fun K "_law_lets" "_law_lets" st_law_lets f fd) (hm : mg "_law_lets" = some (.ref f)) (hb : Binds K fd ["_law_machine_here", "_law_row"] []) (c_law_gone : Cal P w K mg base 1 "_law_gone" 3 s_law_gone) : Cal P w K mg base 2 "_law_lets" 2 s_law_lets := by
  refine calA (b := a_law_lets) F sc_law_lets rfl hm hb ?_ (fun _ _ _ _ h => h)
  intro cdv A outer s H E hr hgd
  have hw : (Bs.nil ⟨w, mg⟩).g = ⟨w, mg⟩ := rfl
  exact ⟨_, ass_cons (as_set 2 sc_law_lets.nd (ae_call (K := K) (g := ⟨w, mg⟩) c_law_gone hr hgd (aa_cons (ae_v 0) (aa_cons (ae_int) (aa_cons (ae_v 1) (aa_nil))))) rfl (.inl rfl))
      (ass_one (as_ret (ae_and (K := K) (ae_cmp ao_isnot (ae_v 2) (ae_non)) (ae_one (ae_ix (K := K) (ae_ix (K := K) (ae_v 0) (ae_int)) (ae_v 2))))))⟩
abbrev st_law_inside : Stmt := topS 26
theorem sc_law_inside : FnScope ["_law_machine_here", "_law_layers", "_law_last", "_law_at", "_law_among", "_law_stand"] ["_law_machine_here", "_law_layers", "_law_last"] (defScope st_law_inside) := ⟨rfl, rfl, rfl, by decide +kernel, rfl, by decide +kernel, by decide +kernel⟩
theorem ok_law_inside {P : Program} {w : World} {K : PySem.W.Frag} {mg : Str → Option Value} {base : Heap} {f : Addr} {fd : FuncData} (F : L2.Fun K "_law_inside" "_law_inside" st_law_inside f fd) (hm : mg "_law_inside" = some (.ref f)) (hb : Binds K fd ["_law_machine_here", "_law_layers", "_law_last"] []) (m_range : mg "range" = none) (m_sum : mg "sum" = none) (c_law_leads : Cal P w K mg base 1 "_law_leads" 3 s_law_leads) : Cal P w K mg base 2 "_law_inside" 3 s_law_inside := by
  refine calA (b := a_law_inside) F sc_law_inside rfl hm hb ?_ (fun _ _ _ _ h => h)
  intro cdv A outer s H E hr hgd
  have hw : (Bs.nil ⟨w, mg⟩).g = ⟨w, mg⟩ := rfl
  exact ⟨_, ass_cons (as_for (ai_range1 m_range (aa_cons (ae_op (ao_add (K := K)) (ae_v 2) (ae_int)) (aa_nil))) (ag_name 3 (vs := [3]) sc_law_inside.nd rfl (.inl rfl))
      (ass_cons (as_set 4 sc_law_inside.nd (ae_callB ac_sumL m_sum (by decide +kernel) (aa_cons (ae_cut (K := K) (ae_v 1) ao_none (ao_some (ae_op (ao_add (K := K)) (ae_v 3) (ae_int)))) (aa_cons (ae_lst (aa_nil)) (aa_nil)))) rfl (.inl rfl))
      (ass_one (as_for (ai_list (K := K) (ae_ix (K := K) (ae_v 1) (ae_v 3))) (ag_name 5 (vs := [5]) sc_law_inside.nd rfl (.inl rfl))
      (ass_one (as_if (at_not (at_tru (K := K) (ae_call (K := K) (g := ⟨w, mg⟩) c_law_leads hr hgd (aa_cons (ae_v 0) (aa_cons (ae_v 5) (aa_cons (ae_v 4) (aa_nil)))))))
      (ass_one (as_ret (ae_bl)))
      (ass_nil)))))))
      (ass_one (as_ret (ae_bl)))⟩
abbrev st_lets : Stmt := topS 5
theorem sc_lets : FnScope ["machine", "row", "stand"] ["machine", "row"] (defScope st_lets) := ⟨rfl, rfl, rfl, by decide +kernel, rfl, by decide +kernel, by decide +kernel⟩
theorem ok_lets {P : Program} {w : World} {K : PySem.W.Frag} {mg : Str → Option Value} {base : Heap} {f : Addr} {fd : FuncData} (F : L2.Fun K "lets" "lets" st_lets f fd) (hm : mg "lets" = some (.ref f)) (hb : Binds K fd ["machine", "row"] []) (c_gone : Cal P w K mg base 2 "gone" 3 s_gone) : Cal P w K mg base 3 "lets" 2 s_lets := by
  refine calA (b := a_lets) F sc_lets rfl hm hb ?_ (fun _ _ _ _ h => h)
  intro cdv A outer s H E hr hgd
  have hw : (Bs.nil ⟨w, mg⟩).g = ⟨w, mg⟩ := rfl
  exact ⟨_, ass_cons (as_set 2 sc_lets.nd (ae_call (K := K) (g := ⟨w, mg⟩) c_gone hr hgd (aa_cons (ae_v 0) (aa_cons (ae_int) (aa_cons (ae_v 1) (aa_nil))))) rfl (.inl rfl))
      (ass_one (as_ret (ae_and (K := K) (ae_cmp ao_isnot (ae_v 2) (ae_non)) (ae_one (ae_ix (K := K) (ae_ix (K := K) (ae_v 0) (ae_int)) (ae_v 2))))))⟩
abbrev st_law_signs : Stmt := topS 16
theorem sc_law_signs : FnScope ["_law_pen_here"] ["_law_pen_here"] (defScope st_law_signs) := ⟨rfl, rfl, rfl, by decide +kernel, rfl, by decide +kernel, by decide +kernel⟩
theorem ok_law_signs {P : Program} {w : World} {K : PySem.W.Frag} {mg : Str → Option Value} {base : Heap} {f : Addr} {fd : FuncData} (F : L2.Fun K "_law_signs" "_law_signs" st_law_signs f fd) (hm : mg "_law_signs" = some (.ref f)) (hb : Binds K fd ["_law_pen_here"] []) (c_law_take : Cal P w K mg base 2 "_law_take" 2 s_law_take) : Cal P w K mg base 3 "_law_signs" 1 s_law_signs := by
  refine calA (b := a_law_signs) F sc_law_signs rfl hm hb ?_ (fun _ _ _ _ h => h)
  intro cdv A outer s H E hr hgd
  have hw : (Bs.nil ⟨w, mg⟩).g = ⟨w, mg⟩ := rfl
  exact ⟨_, ass_one (as_ret (ae_ix (K := K) (ae_lst (aa_cons (ae_int) (aa_cons (ae_int) (aa_cons (ae_int) (aa_cons (ae_int) (aa_cons (ae_int) (aa_cons (ae_int) (aa_cons (ae_int) (aa_cons (ae_op (ao_add (K := K)) (ae_int) (ae_call (K := K) (g := ⟨w, mg⟩) c_law_take hr hgd (aa_cons (ae_v 0) (aa_cons (ae_int) (aa_nil))))) (aa_nil)))))))))) (ae_call (K := K) (g := ⟨w, mg⟩) c_law_take hr hgd (aa_cons (ae_v 0) (aa_cons (ae_int) (aa_nil))))))⟩
abbrev st_law_goal : Stmt := topS 17
theorem sc_law_goal : FnScope ["_law_pen_here", "_law_stand", "_law_stands_here", "_law_way", "_law_goal_here"] ["_law_pen_here", "_law_stand", "_law_stands_here", "_law_way"] (defScope st_law_goal) := ⟨rfl, rfl, rfl, by decide +kernel, rfl, by decide +kernel, by decide +kernel⟩
theorem ok_law_goal {P : Program} {w : World} {K : PySem.W.Frag} {mg : Str → Option Value} {base : Heap} {f : Addr} {fd : FuncData} (F : L2.Fun K "_law_goal" "_law_goal" st_law_goal f fd) (hm : mg "_law_goal" = some (.ref f)) (hb : Binds K fd ["_law_pen_here", "_law_stand", "_law_stands_here", "_law_way"] []) (c_law_take : Cal P w K mg base 2 "_law_take" 2 s_law_take) : Cal P w K mg base 3 "_law_goal" 4 s_law_goal := by
  refine calA (b := a_law_goal) F sc_law_goal rfl hm hb ?_ (fun _ _ _ _ h => h)
  intro cdv A outer s H E hr hgd
  have hw : (Bs.nil ⟨w, mg⟩).g = ⟨w, mg⟩ := rfl
  exact ⟨_, ass_cons (as_set 4 sc_law_goal.nd (ae_call (K := K) (g := ⟨w, mg⟩) c_law_take hr hgd (aa_cons (ae_v 0) (aa_cons (ae_op (ao_add (K := K)) (ae_v 2) (ae_int)) (aa_nil)))) rfl (.inl rfl))
      (ass_cons (as_if (aw_t (aw_or (at_cmp (ao_eq (K := K) hr.units) (ae_v 4) (ae_v 2)) (aw_or1 (aw_t (aw_and (at_cmp (ao_eq (K := K) hr.units) (ae_v 3) (ae_int)) (aw_and1 (at_cmp ao_le (ae_v 4) (ae_v 1))))))))
      (ass_one (as_ret (ae_non)))
      (ass_nil))
      (ass_one (as_ret (ae_v 4))))⟩
abbrev st_law_ring : Stmt := topS 19
theorem sc_law_ring : FnScope ["_law_pen_here", "_law_signs_here", "_law_many", "_law_goes", "_law_stand", "_law_row"] ["_law_pen_here", "_law_signs_here"] (defScope st_law_ring) := ⟨rfl, rfl, rfl, by decide +kernel, rfl, by decide +kernel, by decide +kernel⟩
theorem ok_law_ring {P : Program} {w : World} {K : PySem.W.Frag} {mg : Str → Option Value} {base : Heap} {f : Addr} {fd : FuncData} (F : L2.Fun K "_law_ring" "_law_ring" st_law_ring f fd) (hm : mg "_law_ring" = some (.ref f)) (hb : Binds K fd ["_law_pen_here", "_law_signs_here"] []) (m_range : mg "range" = none) (c_law_take : Cal P w K mg base 2 "_law_take" 2 s_law_take) : Cal P w K mg base 3 "_law_ring" 2 s_law_ring := by
  refine calA (b := a_law_ring) F sc_law_ring rfl hm hb ?_ (fun _ _ _ _ h => h)
  intro cdv A outer s H E hr hgd
  have hw : (Bs.nil ⟨w, mg⟩).g = ⟨w, mg⟩ := rfl
  exact ⟨_, ass_cons (as_set 2 sc_law_ring.nd (ae_op (ao_add (K := K)) (ae_int) (ae_call (K := K) (g := ⟨w, mg⟩) c_law_take hr hgd (aa_cons (ae_v 0) (aa_cons (ae_int) (aa_nil))))) rfl (.inr rfl))
      (ass_cons (as_set 3 sc_law_ring.nd (ae_lstM (aa_nil)) rfl (.inl rfl))
      (ass_cons (as_for (ai_range1 m_range (aa_cons (ae_v 2) (aa_nil))) (ag_name 4 (vs := [4]) sc_law_ring.nd rfl (.inl rfl))
      (ass_cons (as_set 5 sc_law_ring.nd (ae_op ao_repL (ae_lst (aa_cons (ae_non) (aa_nil))) (ae_v 1)) rfl (.inl rfl))
      (ass_cons (as_setL (ae_op ao_mod (ae_op (ao_add (K := K)) (ae_v 4) (ae_int)) (ae_op ao_sub (ae_v 2) (ae_int))) (ae_v 5) (ae_call (K := K) (g := ⟨w, mg⟩) c_law_take hr hgd (aa_cons (ae_v 0) (aa_cons (ae_v 1) (aa_nil)))))
      (ass_one (as_expr (ae_meth (K := K) PySem.F.plainAttrs_list PySem.F.slot_list_append PySem.F.type_list_append am_append (ae_v 3) (aa_cons (ae_v 5) (aa_nil))))))))
      (ass_cons (as_setL (ae_op ao_sub (ae_v 2) (ae_int)) (ae_ix (K := K) (ae_v 3) (ae_call (K := K) (g := ⟨w, mg⟩) c_law_take hr hgd (aa_cons (ae_v 0) (aa_cons (ae_op ao_sub (ae_v 2) (ae_int)) (aa_nil))))) (ae_call (K := K) (g := ⟨w, mg⟩) c_law_take hr hgd (aa_cons (ae_v 0) (aa_cons (ae_v 1) (aa_nil)))))
      (ass_cons (as_setL (ae_op ao_repL (ae_lst (aa_cons (ae_non) (aa_nil))) (ae_v 1)) (ae_v 3) (ae_op ao_sub (ae_v 2) (ae_int)))
      (ass_frz 3 (ass_frzIn 3 (ass_one (as_ret (ae_tup (aa_cons (ae_lc [("_law_stand", 4)] sc_law_ring.nd (ai_range1 m_range (aa_cons (ae_v 2) (aa_nil))) (blkOk_by (own := [("_law_stand", 4)]) (N := ["_law_pen_here", "_law_signs_here", "_law_many", "_law_goes", "_law_stand", "_law_row"]) (sc := defScope st_law_ring) (by decide +kernel)) (fun _ _ _ _ _ => ag_name 4 (vs := [4]) sc_law_ring.nd rfl (.inl rfl)) (fun _ _ _ _ _ => ats_nil) (fun _ _ _ _ _ => ae_cmp (ao_eq (K := K) hr.units) (ae_v 4) (ae_op ao_sub (ae_v 2) (ae_int)))) (aa_cons (ae_v 3) (aa_nil))))))))))))⟩
abbrev st_law_holds : Stmt := topS 27
theorem sc_law_holds : FnScope ["_law_machine_here", "_law_thing", "_law_layers", "_law_row", "_law_one", "_law_some"] ["_law_machine_here", "_law_thing"] (defScope st_law_holds) := ⟨rfl, rfl, rfl, by decide +kernel, rfl, by decide +kernel, by decide +kernel⟩
theorem ok_law_holds {P : Program} {w : World} {K : PySem.W.Frag} {mg : Str → Option Value} {base : Heap} {f : Addr} {fd : FuncData} (F : L2.Fun K "_law_holds" "_law_holds" st_law_holds f fd) (hm : mg "_law_holds" = some (.ref f)) (hb : Binds K fd ["_law_machine_here", "_law_thing"] []) (m_all : mg "all" = none) (m_bool : mg "bool" = none) (m_int : mg "int" = none) (m_isinstance : mg "isinstance" = none) (m_len : mg "len" = none) (m_list : mg "list" = none) (m_str : mg "str" = none) (m_tuple : mg "tuple" = none) (c_law_stands : Cal P w K mg base 1 "_law_stands" 2 s_law_stands) (c_law_lets : Cal P w K mg base 2 "_law_lets" 2 s_law_lets) (c_law_inside : Cal P w K mg base 2 "_law_inside" 3 s_law_inside) : Cal P w K mg base 3 "_law_holds" 2 s_law_holds := by
  refine calA (b := a_law_holds) F sc_law_holds rfl hm hb ?_ (fun _ _ _ _ h => h)
  intro cdv A outer s H E hr hgd
  have hw : (Bs.nil ⟨w, mg⟩).g = ⟨w, mg⟩ := rfl
  exact ⟨_, ass_cons (as_if (aw_t (aw_or (at_not (at_tru (K := K) (ae_isi (K := K) (ae_v 1) m_isinstance m_tuple (by decide +kernel)))) (aw_or (at_cmp ao_ninL (ae_callB (ac_len (K := K)) m_len (by decide +kernel) (aa_cons (ae_v 1) (aa_nil))) (ae_tup (aa_cons (ae_int) (aa_cons (ae_int) (aa_nil))))) (aw_or1 (at_not (at_tru (K := K) (ae_isi (K := K) (ae_ix (K := K) (ae_v 1) (ae_int)) m_isinstance m_str (by decide +kernel))))))))
      (ass_one (as_ret (ae_bl)))
      (ass_nil))
      (ass_cons (as_set 2 sc_law_holds.nd (ae_ix (K := K) (ae_v 1) (ae_neg (ae_int))) rfl (.inl rfl))
      (ass_cons (as_if (aw_t (aw_or (at_not (at_tru (K := K) (ae_isi (K := K) (ae_v 2) m_isinstance m_list (by decide +kernel)))) (aw_or (at_cmp (ao_eq (K := K) hr.units) (ae_callB (ac_len (K := K)) m_len (by decide +kernel) (aa_cons (ae_v 2) (aa_nil))) (ae_int)) (aw_or1 (at_not (at_tru (K := K) (ae_callB (ac_all (K := K)) m_all (by decide +kernel) (aa_cons (ae_lc [("_law_some", 5)] sc_law_holds.nd (ai_list (K := K) (ae_v 2)) (blkOk_by (own := [("_law_some", 5)]) (N := ["_law_machine_here", "_law_thing", "_law_layers", "_law_row", "_law_one", "_law_some"]) (sc := defScope st_law_holds) (by decide +kernel)) (fun _ _ _ _ _ => ag_name 5 (vs := [5]) sc_law_holds.nd rfl (.inl rfl)) (fun _ _ _ _ _ => ats_nil) (fun _ _ _ _ _ => ae_call (K := K) (g := ⟨w, mg⟩) c_law_stands hr hgd (aa_cons (ae_v 0) (aa_cons (ae_v 5) (aa_nil))))) (aa_nil)))))))))
      (ass_one (as_ret (ae_bl)))
      (ass_nil))
      (ass_cons (as_if (at_cmp ao_ninL (ae_int) (ae_ix (K := K) (ae_v 2) (ae_int)))
      (ass_one (as_ret (ae_bl)))
      (ass_nil))
      (ass_cons (as_if (at_cmp (ao_eq (K := K) hr.units) (ae_callB (ac_len (K := K)) m_len (by decide +kernel) (aa_cons (ae_v 1) (aa_nil))) (ae_int))
      (ass_one (as_ret (ae_and (K := K) (ae_cmp (ao_eq (K := K) hr.units) (ae_ix (K := K) (ae_v 1) (ae_int)) (ae_str)) (ae_one (ae_call (K := K) (g := ⟨w, mg⟩) c_law_inside hr hgd (aa_cons (ae_v 0) (aa_cons (ae_v 2) (aa_cons (ae_op ao_sub (ae_callB (ac_len (K := K)) m_len (by decide +kernel) (aa_cons (ae_v 2) (aa_nil))) (ae_int)) (aa_nil)))))))))
      (ass_nil))
      (ass_cons (as_set 3 sc_law_holds.nd (ae_ix (K := K) (ae_v 1) (ae_int)) rfl (.inl rfl))
      (ass_cons (as_if (aw_t (aw_or (at_cmp (ao_ne (K := K) hr.units) (ae_ix (K := K) (ae_v 1) (ae_int)) (ae_str)) (aw_or (at_not (at_tru (K := K) (ae_isi (K := K) (ae_v 3) m_isinstance m_list (by decide +kernel)))) (aw_or1 (at_cmp (ao_ne (K := K) hr.units) (ae_callB (ac_len (K := K)) m_len (by decide +kernel) (aa_cons (ae_v 3) (aa_nil))) (ae_op ao_sub (ae_callB (ac_len (K := K)) m_len (by decide +kernel) (aa_cons (ae_v 2) (aa_nil))) (ae_int)))))))
      (ass_one (as_ret (ae_bl)))
      (ass_nil))
      (ass_cons (as_for (ai_list (K := K) (ae_v 3)) (ag_name 4 (vs := [4]) sc_law_holds.nd rfl (.inl rfl))
      (ass_one (as_if (aw_t (aw_or (at_not (at_tru (K := K) (ae_isi (K := K) (ae_v 4) m_isinstance m_int (by decide +kernel)))) (aw_or (at_tru (K := K) (ae_isi (K := K) (ae_v 4) m_isinstance m_bool (by decide +kernel))) (aw_or1 (at_not (at_chain ao_le ao_lt (ae_int) (ae_v 4) (ae_callB (ac_len (K := K)) m_len (by decide +kernel) (aa_cons (ae_ix (K := K) (ae_ix (K := K) (ae_v 0) (ae_int)) (ae_int)) (aa_nil)))))))))
      (ass_one (as_ret (ae_bl)))
      (ass_nil))))
      (ass_one (as_ret (ae_and (K := K) (ae_call (K := K) (g := ⟨w, mg⟩) c_law_lets hr hgd (aa_cons (ae_v 0) (aa_cons (ae_v 3) (aa_nil)))) (ae_one (ae_call (K := K) (g := ⟨w, mg⟩) c_law_inside hr hgd (aa_cons (ae_v 0) (aa_cons (ae_v 2) (aa_cons (ae_op ao_sub (ae_callB (ac_len (K := K)) m_len (by decide +kernel) (aa_cons (ae_v 2) (aa_nil))) (ae_int)) (aa_nil))))))))))))))))⟩
abbrev st_law_mingled : Stmt := topS 29
theorem sc_law_mingled : FnScope ["_law_pen_here", "_law_layers", "_law_got", "_law_at", "_law_some", "_law_more"] ["_law_pen_here", "_law_layers"] (defScope st_law_mingled) := ⟨rfl, rfl, rfl, by decide +kernel, rfl, by decide +kernel, by decide +kernel⟩
theorem ok_law_mingled {P : Program} {w : World} {K : PySem.W.Frag} {mg : Str → Option Value} {base : Heap} {f : Addr} {fd : FuncData} (F : L2.Fun K "_law_mingled" "_law_mingled" st_law_mingled f fd) (hm : mg "_law_mingled" = some (.ref f)) (hb : Binds K fd ["_law_pen_here", "_law_layers"] []) (m_enumerate : mg "enumerate" = none) (c_law_take : Cal P w K mg base 2 "_law_take" 2 s_law_take) : Cal P w K mg base 3 "_law_mingled" 2 s_law_mingled := by
  refine calA (b := a_law_mingled) F sc_law_mingled rfl hm hb ?_ (fun _ _ _ _ h => h)
  intro cdv A outer s H E hr hgd
  have hw : (Bs.nil ⟨w, mg⟩).g = ⟨w, mg⟩ := rfl
  exact ⟨_, ass_cons (as_set 2 sc_law_mingled.nd (ae_lstM (aa_nil)) rfl (.inl rfl))
      (ass_cons (as_for (ai_enum (K := K) m_enumerate (aa_cons (ae_cut (K := K) (ae_v 1) ao_none (ao_some (ae_neg (ae_int)))) (aa_nil))) (ag_tup (K := K) (ags_cons (ag_name 3 (vs := [3, 4]) sc_law_mingled.nd rfl (.inl rfl)) (ags_cons (ag_name 4 (vs := [3, 4]) sc_law_mingled.nd rfl (.inl rfl)) (ags_nil))))
      (ass_cons (as_set 5 sc_law_mingled.nd (ae_op (ao_add (K := K)) (ae_revL (K := K) (ae_v 4)) (ae_cut (K := K) (ae_v 4) ao_none (ao_some (ae_int)))) rfl (.inl rfl))
      (ass_cons (as_if (aw_t (aw_and (at_cmp ao_gt (ae_v 3) (ae_int)) (aw_and1 (at_cmp (ao_eq (K := K) hr.units) (ae_call (K := K) (g := ⟨w, mg⟩) c_law_take hr hgd (aa_cons (ae_v 0) (aa_cons (ae_int) (aa_nil)))) (ae_int)))))
      (ass_one (as_set 5 sc_law_mingled.nd (ae_op (ao_add (K := K)) (ae_v 5) (ae_ix (K := K) (ae_v 1) (ae_call (K := K) (g := ⟨w, mg⟩) c_law_take hr hgd (aa_cons (ae_v 0) (aa_cons (ae_v 3) (aa_nil)))))) rfl (.inl rfl)))
      (ass_nil))
      (ass_one (as_expr (ae_meth (K := K) PySem.F.plainAttrs_list PySem.F.slot_list_append PySem.F.type_list_append am_append (ae_v 2) (aa_cons (ae_v 5) (aa_nil))))))))
      (ass_frz 2 (ass_one (as_ret (ae_op (ao_add (K := K)) (ae_v 2) (ae_lst (aa_cons (ae_op (ao_add (K := K)) (ae_ix (K := K) (ae_v 1) (ae_neg (ae_int))) (ae_cut (K := K) (ae_ix (K := K) (ae_v 1) (ae_neg (ae_int))) ao_none (ao_some (ae_int)))) (aa_nil))))))))⟩
abbrev st_law_lists : Stmt := topS 31
theorem sc_law_lists : FnScope ["_law_pen_here", "_law_machine_here", "_law_some", "_law_at", "_law_held", "_law_things", "_law_got", "_law_thing"] ["_law_pen_here", "_law_machine_here", "_law_some"] (defScope st_law_lists) := ⟨rfl, rfl, rfl, by decide +kernel, rfl, by decide +kernel, by decide +kernel⟩
theorem ok_law_lists {P : Program} {w : World} {K : PySem.W.Frag} {mg : Str → Option Value} {base : Heap} {f : Addr} {fd : FuncData} (F : L2.Fun K "_law_lists" "_law_lists" st_law_lists f fd) (hm : mg "_law_lists" = some (.ref f)) (hb : Binds K fd ["_law_pen_here", "_law_machine_here", "_law_some"] []) (m_len : mg "len" = none) (m_max : mg "max" = none) (m_tuple : mg "tuple" = none) (c_law_take : Cal P w K mg base 2 "_law_take" 2 s_law_take) : Cal P w K mg base 3 "_law_lists" 3 s_law_lists := by
  refine calA (b := a_law_lists) F sc_law_lists rfl hm hb ?_ (fun _ _ _ _ h => h)
  intro cdv A outer s H E hr hgd
  have hw : (Bs.nil ⟨w, mg⟩).g = ⟨w, mg⟩ := rfl
  exact ⟨_, ass_cons (as_set 3 sc_law_lists.nd (ae_call (K := K) (g := ⟨w, mg⟩) c_law_take hr hgd (aa_cons (ae_v 0) (aa_cons (ae_callB ac_max2 m_max (by decide +kernel) (aa_cons (ae_int) (aa_cons (ae_callB (ac_len (K := K)) m_len (by decide +kernel) (aa_cons (ae_v 2) (aa_nil))) (aa_nil)))) (aa_nil)))) rfl (.inr rfl))
      (ass_cons (as_set 4 sc_law_lists.nd (ae_call (K := K) (g := ⟨w, mg⟩) c_law_take hr hgd (aa_cons (ae_v 0) (aa_cons (ae_callB (ac_len (K := K)) m_len (by decide +kernel) (aa_cons (ae_ix (K := K) (ae_v 1) (ae_int)) (aa_nil))) (aa_nil)))) rfl (.inl rfl))
      (ass_cons (as_set 5 sc_law_lists.nd (ae_lst (aa_cons (ae_non) (aa_cons (ae_neg (ae_int)) (aa_cons (ae_int) (aa_cons (ae_bl) (aa_cons (ae_bl) (aa_cons (ae_str) (aa_cons (ae_op ao_pow (ae_int) (ae_int)) (aa_cons (ae_callB (ac_len (K := K)) m_len (by decide +kernel) (aa_cons (ae_ix (K := K) (ae_v 1) (ae_int)) (aa_nil))) (aa_cons (ae_callB (ac_len (K := K)) m_len (by decide +kernel) (aa_cons (ae_ix (K := K) (ae_ix (K := K) (ae_v 1) (ae_int)) (ae_int)) (aa_nil))) (aa_cons (ae_v 4) (aa_cons (ae_lst (aa_cons (ae_int) (aa_nil))) (aa_nil))))))))))))) rfl (.inl rfl))
      (ass_cons (as_setLc 6 [("_law_thing", 7)] sc_law_lists.nd (ai_list (K := K) (ae_v 5)) (sw_true rfl rfl rfl (by decide +kernel)) (blkOk_by (own := [("_law_thing", 7)]) (N := ["_law_pen_here", "_law_machine_here", "_law_some", "_law_at", "_law_held", "_law_things", "_law_got", "_law_thing"]) (sc := defScope st_law_lists) (by decide +kernel)) (fun _ _ _ _ _ => ag_name 7 (vs := [7]) sc_law_lists.nd rfl (.inl rfl)) (fun _ _ _ _ _ => ats_nil) (fun _ _ _ _ _ => ae_op (ao_add (K := K)) (ae_op (ao_add (K := K)) (ae_cut (K := K) (ae_v 2) ao_none (ao_some (ae_v 3))) (ae_lst (aa_cons (ae_v 7) (aa_nil)))) (ae_cut (K := K) (ae_v 2) (ao_some (ae_op (ao_add (K := K)) (ae_v 3) (ae_int))) ao_none)))
      (ass_cons (as_set 6 sc_law_lists.nd (ae_op (ao_add (K := K)) (ae_v 6) (ae_lst (aa_cons (ae_op (ao_add (K := K)) (ae_cut (K := K) (ae_v 2) ao_none (ao_some (ae_v 3))) (ae_cut (K := K) (ae_v 2) (ao_some (ae_op (ao_add (K := K)) (ae_v 3) (ae_int))) ao_none)) (aa_cons (ae_op (ao_add (K := K)) (ae_v 2) (ae_lst (aa_cons (ae_v 4) (aa_nil)))) (aa_cons (ae_op (ao_add (K := K)) (ae_v 2) (ae_lst (aa_cons (ae_int) (aa_nil)))) (aa_cons (ae_op (ao_add (K := K)) (ae_v 2) (ae_lst (aa_cons (ae_bl) (aa_nil)))) (aa_cons (ae_revL (K := K) (ae_v 2)) (aa_cons (ae_callT (ac_tuple (K := K)) m_tuple (by decide +kernel) (aa_cons (ae_v 2) (aa_nil))) (aa_cons (ae_lst (aa_nil)) (aa_nil)))))))))) rfl (.inl rfl))
      (ass_one (as_ret (ae_op (ao_add (K := K)) (ae_v 6) (ae_lst (aa_cons (ae_non) (aa_cons (ae_int) (aa_cons (ae_str) (aa_cons (ae_dispF (aps_int (ae_int) (aps_nil))) (aa_cons (ae_lst (aa_cons (ae_v 2) (aa_nil))) (aa_nil))))))))))))))⟩
abbrev st_holds_shortest : Stmt := topS 11
theorem sc_holds_shortest : FnScope ["machine", "thing"] ["machine", "thing"] (defScope st_holds_shortest) := ⟨rfl, rfl, rfl, by decide +kernel, rfl, by decide +kernel, by decide +kernel⟩
theorem ok_holds_shortest {P : Program} {w : World} {K : PySem.W.Frag} {mg : Str → Option Value} {base : Heap} {f : Addr} {fd : FuncData} (F : L2.Fun K "holds_shortest" "holds_shortest" st_holds_shortest f fd) (hm : mg "holds_shortest" = some (.ref f)) (hb : Binds K fd ["machine", "thing"] []) (m_isinstance : mg "isinstance" = none) (m_len : mg "len" = none) (m_str : mg "str" = none) (m_tuple : mg "tuple" = none) (c_shut_in : Cal P w K mg base 1 "shut_in" 3 s_shut_in) (c_is_row : Cal P w K mg base 2 "is_row" 2 s_is_row) (c_are_layers : Cal P w K mg base 2 "are_layers" 2 s_are_layers) (c_lets : Cal P w K mg base 3 "lets" 2 s_lets) : Cal P w K mg base 4 "holds_shortest" 2 s_holds_shortest := by
  refine calA (b := a_holds_shortest) F sc_holds_shortest rfl hm hb ?_ (fun _ _ _ _ h => h)
  intro cdv A outer s H E hr hgd
  have hw : (Bs.nil ⟨w, mg⟩).g = ⟨w, mg⟩ := rfl
  exact ⟨_, ass_cons (as_if (aw_t (aw_or (at_not (at_tru (K := K) (ae_isi (K := K) (ae_v 1) m_isinstance m_tuple (by decide +kernel)))) (aw_or (at_cmp ao_lt (ae_callB (ac_len (K := K)) m_len (by decide +kernel) (aa_cons (ae_v 1) (aa_nil))) (ae_int)) (aw_or1 (at_not (at_tru (K := K) (ae_isi (K := K) (ae_ix (K := K) (ae_v 1) (ae_int)) m_isinstance m_str (by decide +kernel))))))))
      (ass_one (as_ret (ae_bl)))
      (ass_nil))
      (ass_cons (as_if (aw_t (aw_and (at_cmp (ao_eq (K := K) hr.units) (ae_ix (K := K) (ae_v 1) (ae_int)) (ae_str)) (aw_and1 (at_cmp (ao_eq (K := K) hr.units) (ae_callB (ac_len (K := K)) m_len (by decide +kernel) (aa_cons (ae_v 1) (aa_nil))) (ae_int)))))
      (ass_one (as_ret (ae_and (K := K) (ae_call (K := K) (g := ⟨w, mg⟩) c_are_layers hr hgd (aa_cons (ae_v 0) (aa_cons (ae_ix (K := K) (ae_v 1) (ae_int)) (aa_nil)))) (ae_one (ae_call (K := K) (g := ⟨w, mg⟩) c_shut_in hr hgd (aa_cons (ae_v 0) (aa_cons (ae_ix (K := K) (ae_v 1) (ae_int)) (aa_cons (ae_op ao_sub (ae_callB (ac_len (K := K)) m_len (by decide +kernel) (aa_cons (ae_ix (K := K) (ae_v 1) (ae_int)) (aa_nil))) (ae_int)) (aa_nil)))))))))
      (ass_nil))
      (ass_cons (as_if (aw_t (aw_or (at_cmp (ao_ne (K := K) hr.units) (ae_ix (K := K) (ae_v 1) (ae_int)) (ae_str)) (aw_or (at_cmp (ao_ne (K := K) hr.units) (ae_callB (ac_len (K := K)) m_len (by decide +kernel) (aa_cons (ae_v 1) (aa_nil))) (ae_int)) (aw_or1 (at_not (at_tru (K := K) (ae_call (K := K) (g := ⟨w, mg⟩) c_are_layers hr hgd (aa_cons (ae_v 0) (aa_cons (ae_ix (K := K) (ae_v 1) (ae_int)) (aa_nil))))))))))
      (ass_one (as_ret (ae_bl)))
      (ass_nil))
      (ass_cons (as_if (aw_t (aw_or (at_not (at_tru (K := K) (ae_call (K := K) (g := ⟨w, mg⟩) c_is_row hr hgd (aa_cons (ae_v 0) (aa_cons (ae_ix (K := K) (ae_v 1) (ae_int)) (aa_nil)))))) (aw_or (at_cmp (ao_ne (K := K) hr.units) (ae_op (ao_add (K := K)) (ae_callB (ac_len (K := K)) m_len (by decide +kernel) (aa_cons (ae_ix (K := K) (ae_v 1) (ae_int)) (aa_nil))) (ae_int)) (ae_callB (ac_len (K := K)) m_len (by decide +kernel) (aa_cons (ae_ix (K := K) (ae_v 1) (ae_int)) (aa_nil)))) (aw_or1 (at_not (at_tru (K := K) (ae_call (K := K) (g := ⟨w, mg⟩) c_lets hr hgd (aa_cons (ae_v 0) (aa_cons (ae_ix (K := K) (ae_v 1) (ae_int)) (aa_nil))))))))))
      (ass_one (as_ret (ae_bl)))
      (ass_nil))
      (ass_one (as_ret (ae_call (K := K) (g := ⟨w, mg⟩) c_shut_in hr hgd (aa_cons (ae_v 0) (aa_cons (ae_ix (K := K) (ae_v 1) (ae_int)) (aa_cons (ae_op ao_sub (ae_callB (ac_len (K := K)) m_len (by decide +kernel) (aa_cons (ae_ix (K := K) (ae_v 1) (ae_int)) (aa_nil))) (ae_int)) (aa_nil))))))))))⟩
abbrev st_law_machine : Stmt := topS 18
theorem sc_law_machine : FnScope ["_law_pen_here", "_law_signs_here", "_law_most", "_law_stands_here", "_law_way", "_law_fence", "_law_ends", "_law_goes", "_law_stand", "_law_row", "_law_number", "_law_goal_here"] ["_law_pen_here", "_law_signs_here", "_law_most"] (defScope st_law_machine) := ⟨rfl, rfl, rfl, by decide +kernel, rfl, by decide +kernel, by decide +kernel⟩
theorem ok_law_machine {P : Program} {w : World} {K : PySem.W.Frag} {mg : Str → Option Value} {base : Heap} {f : Addr} {fd : FuncData} (F : L2.Fun K "_law_machine" "_law_machine" st_law_machine f fd) (hm : mg "_law_machine" = some (.ref f)) (hb : Binds K fd ["_law_pen_here", "_law_signs_here", "_law_most"] []) (m_int : mg "int" = none) (m_range : mg "range" = none) (c_law_take : Cal P w K mg base 2 "_law_take" 2 s_law_take) (c_law_goal : Cal P w K mg base 3 "_law_goal" 4 s_law_goal) : Cal P w K mg base 4 "_law_machine" 3 s_law_machine := by
  refine calA (b := a_law_machine) F sc_law_machine rfl hm hb ?_ (fun _ _ _ _ h => h)
  intro cdv A outer s H E hr hgd
  have hw : (Bs.nil ⟨w, mg⟩).g = ⟨w, mg⟩ := rfl
  exact ⟨_, ass_cons (as_set 3 sc_law_machine.nd (ae_op (ao_add (K := K)) (ae_int) (ae_call (K := K) (g := ⟨w, mg⟩) c_law_take hr hgd (aa_cons (ae_v 0) (aa_cons (ae_v 2) (aa_nil))))) rfl (.inr rfl))
      (ass_cons (as_set 4 sc_law_machine.nd (ae_call (K := K) (g := ⟨w, mg⟩) c_law_take hr hgd (aa_cons (ae_v 0) (aa_cons (ae_int) (aa_nil)))) rfl (.inr rfl))
      (ass_cons (as_set 5 sc_law_machine.nd (ae_op (ao_add (K := K)) (ae_int) (ae_call (K := K) (g := ⟨w, mg⟩) c_law_take hr hgd (aa_cons (ae_v 0) (aa_cons (ae_v 3) (aa_nil))))) rfl (.inr rfl))
      (ass_cons (as_set 6 sc_law_machine.nd (ae_lstM (aa_nil)) rfl (.inl rfl))
      (ass_cons (as_set 7 sc_law_machine.nd (ae_lstM (aa_nil)) rfl (.inl rfl))
      (ass_cons (as_for (ai_range1 m_range (aa_cons (ae_v 3) (aa_nil))) (ag_name 8 (vs := [8]) sc_law_machine.nd rfl (.inr rfl))
      (ass_cons (as_expr (ae_meth (K := K) PySem.F.plainAttrs_list PySem.F.slot_list_append PySem.F.type_list_append am_append (ae_v 6) (aa_cons (ae_cmp (ao_eq (K := K) hr.units) (ae_call (K := K) (g := ⟨w, mg⟩) c_law_take hr hgd (aa_cons (ae_v 0) (aa_cons (ae_int) (aa_nil)))) (ae_int)) (aa_nil))))
      (ass_cons (as_setLc 9 [("_law_number", 10)] sc_law_machine.nd (ai_range1 m_range (aa_cons (ae_v 1) (aa_nil))) (sw_true rfl rfl rfl (by decide +kernel)) (blkOk_by (own := [("_law_number", 10)]) (N := ["_law_pen_here", "_law_signs_here", "_law_most", "_law_stands_here", "_law_way", "_law_fence", "_law_ends", "_law_goes", "_law_stand", "_law_row", "_law_number", "_law_goal_here"]) (sc := defScope st_law_machine) (by decide +kernel)) (fun _ _ _ _ _ => ag_name 10 (vs := [10]) sc_law_machine.nd rfl (.inl rfl)) (fun _ _ _ _ _ => ats_nil) (fun _ _ _ _ _ => ae_call (K := K) (g := ⟨w, mg⟩) c_law_goal hr hgd (aa_cons (ae_v 0) (aa_cons (ae_v 8) (aa_cons (ae_v 3) (aa_cons (ae_v 4) (aa_nil)))))))
      (ass_cons (as_if (aw_t (aw_and (at_cmp (ao_eq (K := K) hr.units) (ae_v 4) (ae_int)) (aw_and1 (at_cmp ao_lt (ae_v 8) (ae_v 5)))))
      (ass_cons (as_setL (ae_bl) (ae_v 6) (ae_v 8))
      (ass_one (as_setLc 9 [("_law_goal_here", 11)] sc_law_machine.nd (ai_list (K := K) (ae_v 9)) (sw_true rfl rfl rfl (by decide +kernel)) (blkOk_by (own := [("_law_goal_here", 11)]) (N := ["_law_pen_here", "_law_signs_here", "_law_most", "_law_stands_here", "_law_way", "_law_fence", "_law_ends", "_law_goes", "_law_stand", "_law_row", "_law_number", "_law_goal_here"]) (sc := defScope st_law_machine) (by decide +kernel)) (fun _ _ _ _ _ => ag_name 11 (vs := [11]) sc_law_machine.nd rfl (.inl rfl)) (fun _ _ _ _ _ => ats_nil) (fun _ _ _ _ _ => ae_ix (K := K) (ae_lst (aa_cons (ae_v 11) (aa_cons (ae_non) (aa_nil)))) (ae_callT ac_int m_int (by decide +kernel) (aa_cons (ae_or (K := K) (ae_cmp ao_is (ae_v 11) (ae_non)) (ae_one (ae_cmp ao_ge (ae_v 11) (ae_v 5)))) (aa_nil)))))))
      (ass_nil))
      (ass_one (as_expr (ae_meth (K := K) PySem.F.plainAttrs_list PySem.F.slot_list_append PySem.F.type_list_append am_append (ae_v 7) (aa_cons (ae_v 9) (aa_nil)))))))))
      (ass_frz 6 (ass_frz 7 (ass_one (as_ret (ae_tup (aa_cons (ae_v 6) (aa_cons (ae_v 7) (aa_nil)))))))))))))⟩
abbrev st_law_written : Stmt := topS 30
theorem sc_law_written : FnScope ["_law_pen_here", "_law_machine_here", "_law_due_here", "_law_layers", "_law_got", "_law_ends", "_law_shut", "_law_stand"] ["_law_pen_here", "_law_machine_here"] (defScope st_law_written) := ⟨rfl, rfl, rfl, by decide +kernel, rfl, by decide +kernel, by decide +kernel⟩
theorem ok_law_written {P : Program} {w : World} {K : PySem.W.Frag} {mg : Str → Option Value} {base : Heap} {f : Addr} {fd : FuncData} (F : L2.Fun K "_law_written" "_law_written" st_law_written f fd) (hm : mg "_law_written" = some (.ref f)) (hb : Binds K fd ["_law_pen_here", "_law_machine_here"] []) (m_len : mg "len" = none) (m_range : mg "range" = none) (m_sum : mg "sum" = none) (c_law_due : Cal P w K mg base 1 "_law_due" 1 s_law_due) (c_law_row_to : Cal P w K mg base 1 "_law_row_to" 3 s_law_row_to) (c_law_mingled : Cal P w K mg base 3 "_law_mingled" 2 s_law_mingled) : Cal P w K mg base 4 "_law_written" 2 s_law_written := by
  refine calA (b := a_law_written) F sc_law_written rfl hm hb ?_ (fun _ _ _ _ h => h)
  intro cdv A outer s H E hr hgd
  have hw : (Bs.nil ⟨w, mg⟩).g = ⟨w, mg⟩ := rfl
  exact ⟨_, ass_cons (as_set 2 sc_law_written.nd (ae_call (K := K) (g := ⟨w, mg⟩) c_law_due hr hgd (aa_cons (ae_v 1) (aa_nil))) rfl (.inl rfl))
      (ass_cons (as_set 3 sc_law_written.nd (ae_ix (K := K) (ae_v 2) (ae_neg (ae_int))) rfl (.inl rfl))
      (ass_cons (as_set 4 sc_law_written.nd (ae_lstM (aa_cons (ae_v 2) (aa_cons (ae_op (ao_add (K := K)) (ae_cut (K := K) (ae_v 2) ao_none (ao_some (ae_neg (ae_int)))) (ae_tup (aa_cons (ae_call (K := K) (g := ⟨w, mg⟩) c_law_mingled hr hgd (aa_cons (ae_v 0) (aa_cons (ae_v 3) (aa_nil)))) (aa_nil)))) (aa_nil)))) rfl (.inl rfl))
      (ass_cons (as_if (at_cmp (ao_eq (K := K) hr.units) (ae_callB (ac_len (K := K)) m_len (by decide +kernel) (aa_cons (ae_v 2) (aa_nil))) (ae_int))
      (ass_cons (as_expr (ae_meth (K := K) PySem.F.plainAttrs_list PySem.F.slot_list_append PySem.F.type_list_append am_append (ae_v 4) (aa_cons (ae_tup (aa_cons (ae_str) (aa_cons (ae_lst (aa_cons (ae_callB ac_sumL m_sum (by decide +kernel) (aa_cons (ae_v 3) (aa_cons (ae_lst (aa_nil)) (aa_nil)))) (aa_nil))) (aa_nil)))) (aa_nil))))
      (ass_cons (as_expr (ae_meth (K := K) PySem.F.plainAttrs_list PySem.F.slot_list_append PySem.F.type_list_append am_append (ae_v 4) (aa_cons (ae_tup (aa_cons (ae_str) (aa_cons (ae_lst (aa_cons (ae_callB ac_sumL m_sum (by decide +kernel) (aa_cons (ae_v 3) (aa_cons (ae_lst (aa_nil)) (aa_nil)))) (aa_cons (ae_lst (aa_nil)) (aa_cons (ae_ix (K := K) (ae_v 3) (ae_neg (ae_int))) (aa_nil))))) (aa_nil)))) (aa_nil))))
      (ass_one (as_ret (ae_v 4)))))
      (ass_nil))
      (ass_frz 4 (ass_cons (as_set 5 sc_law_written.nd (ae_lc [("_law_stand", 7)] sc_law_written.nd (ai_range1 m_range (aa_cons (ae_callB (ac_len (K := K)) m_len (by decide +kernel) (aa_cons (ae_ix (K := K) (ae_v 1) (ae_int)) (aa_nil))) (aa_nil))) (blkOk_by (own := [("_law_stand", 7)]) (N := ["_law_pen_here", "_law_machine_here", "_law_due_here", "_law_layers", "_law_got", "_law_ends", "_law_shut", "_law_stand"]) (sc := defScope st_law_written) (by decide +kernel)) (fun _ _ _ _ _ => ag_name 7 (vs := [7]) sc_law_written.nd rfl (.inl rfl)) (fun _ _ _ _ _ => ats_one (at_tru (K := K) (ae_ix (K := K) (ae_ix (K := K) (ae_v 1) (ae_int)) (ae_v 7)))) (fun _ _ _ _ _ => ae_v 7)) rfl (.inr rfl))
      (ass_cons (as_setLc 6 [("_law_stand", 7)] sc_law_written.nd (ai_range1 m_range (aa_cons (ae_callB (ac_len (K := K)) m_len (by decide +kernel) (aa_cons (ae_ix (K := K) (ae_v 1) (ae_int)) (aa_nil))) (aa_nil))) (sw_true rfl rfl rfl (by decide +kernel)) (blkOk_by (own := [("_law_stand", 7)]) (N := ["_law_pen_here", "_law_machine_here", "_law_due_here", "_law_layers", "_law_got", "_law_ends", "_law_shut", "_law_stand"]) (sc := defScope st_law_written) (by decide +kernel)) (fun _ _ _ _ _ => ag_name 7 (vs := [7]) sc_law_written.nd rfl (.inl rfl)) (fun _ _ _ _ _ => ats_one (at_cmp ao_is (ae_call (K := K) (g := ⟨w, mg⟩) c_law_row_to hr hgd (aa_cons (ae_v 1) (aa_cons (ae_v 7) (aa_cons (ae_v 5) (aa_nil))))) (ae_non))) (fun _ _ _ _ _ => ae_v 7))
      (ass_one (as_ret (ae_op (ao_add (K := K)) (ae_v 4) (ae_lst (aa_cons (ae_op (ao_add (K := K)) (ae_cut (K := K) (ae_v 2) ao_none (ao_some (ae_neg (ae_int)))) (ae_tup (aa_cons (ae_op (ao_add (K := K)) (ae_lst (aa_cons (ae_op (ao_add (K := K)) (ae_ix (K := K) (ae_v 3) (ae_int)) (ae_v 6)) (aa_nil))) (ae_cut (K := K) (ae_v 3) (ao_some (ae_int)) ao_none)) (aa_nil)))) (aa_nil))))))))))))⟩
abbrev st_law_bent : Stmt := topS 32
theorem sc_law_bent : FnScope ["_law_pen_here", "_law_machine_here", "_law_thing", "_law_layers", "_law_at", "_law_other", "_law_swapped", "_law_some", "_law_got", "_law_word", "_law_bent_here", "_law_one", "_law_row"] ["_law_pen_here", "_law_machine_here", "_law_thing"] (defScope st_law_bent) := ⟨rfl, rfl, rfl, by decide +kernel, rfl, by decide +kernel, by decide +kernel⟩
theorem ok_law_bent {P : Program} {w : World} {K : PySem.W.Frag} {mg : Str → Option Value} {base : Heap} {f : Addr} {fd : FuncData} (F : L2.Fun K "_law_bent" "_law_bent" st_law_bent f fd) (hm : mg "_law_bent" = some (.ref f)) (hb : Binds K fd ["_law_pen_here", "_law_machine_here", "_law_thing"] []) (m_len : mg "len" = none) (m_list : mg "list" = none) (m_sum : mg "sum" = none) (m_tuple : mg "tuple" = none) (c_law_take : Cal P w K mg base 2 "_law_take" 2 s_law_take) (c_law_lists : Cal P w K mg base 3 "_law_lists" 3 s_law_lists) : Cal P w K mg base 4 "_law_bent" 3 s_law_bent := by
  refine calA (b := a_law_bent) F sc_law_bent rfl hm hb ?_ (fun _ _ _ _ h => h)
  intro cdv A outer s H E hr hgd
  have hw : (Bs.nil ⟨w, mg⟩).g = ⟨w, mg⟩ := rfl
  exact ⟨_, ass_cons (as_set 3 sc_law_bent.nd (ae_ix (K := K) (ae_v 2) (ae_neg (ae_int))) rfl (.inr rfl))
      (ass_cons (as_set 4 sc_law_bent.nd (ae_call (K := K) (g := ⟨w, mg⟩) c_law_take hr hgd (aa_cons (ae_v 0) (aa_cons (ae_callB (ac_len (K := K)) m_len (by decide +kernel) (aa_cons (ae_v 3) (aa_nil))) (aa_nil)))) rfl (.inr rfl))
      (ass_cons (as_set 5 sc_law_bent.nd (ae_call (K := K) (g := ⟨w, mg⟩) c_law_take hr hgd (aa_cons (ae_v 0) (aa_cons (ae_callB (ac_len (K := K)) m_len (by decide +kernel) (aa_cons (ae_v 3) (aa_nil))) (aa_nil)))) rfl (.inl rfl))
      (ass_cons (as_set 6 sc_law_bent.nd (ae_callT (ac_listM (K := K)) m_list (by decide +kernel) (aa_cons (ae_v 3) (aa_nil))) rfl (.inl rfl))
      (ass_cons (as_set2 (K := K) (ae_tup (aa_cons (ae_ix (K := K) (ae_v 3) (ae_v 5)) (aa_cons (ae_ix (K := K) (ae_v 3) (ae_v 4)) (aa_nil)))) (ae_v 6) (ae_v 4) (ae_v 6) (ae_v 5))
      (ass_frz 6 (ass_cons (as_setLc 7 [("_law_bent_here", 10)] sc_law_bent.nd (ai_list (K := K) (ae_call (K := K) (g := ⟨w, mg⟩) c_law_lists hr hgd (aa_cons (ae_v 0) (aa_cons (ae_v 1) (aa_cons (ae_ix (K := K) (ae_v 3) (ae_v 4)) (aa_nil)))))) (sw_true rfl rfl rfl (by decide +kernel)) (blkOk_by (own := [("_law_bent_here", 10)]) (N := ["_law_pen_here", "_law_machine_here", "_law_thing", "_law_layers", "_law_at", "_law_other", "_law_swapped", "_law_some", "_law_got", "_law_word", "_law_bent_here", "_law_one", "_law_row"]) (sc := defScope st_law_bent) (by decide +kernel)) (fun _ _ _ _ _ => ag_name 10 (vs := [10]) sc_law_bent.nd rfl (.inl rfl)) (fun _ _ _ _ _ => ats_nil) (fun _ _ _ _ _ => ae_op (ao_add (K := K)) (ae_op (ao_add (K := K)) (ae_cut (K := K) (ae_v 3) ao_none (ao_some (ae_v 4))) (ae_lst (aa_cons (ae_v 10) (aa_nil)))) (ae_cut (K := K) (ae_v 3) (ao_some (ae_op (ao_add (K := K)) (ae_v 4) (ae_int))) ao_none)))
      (ass_cons (as_set 7 sc_law_bent.nd (ae_op (ao_add (K := K)) (ae_v 7) (ae_lst (aa_cons (ae_op (ao_add (K := K)) (ae_cut (K := K) (ae_v 3) ao_none (ao_some (ae_v 4))) (ae_cut (K := K) (ae_v 3) (ao_some (ae_op (ao_add (K := K)) (ae_v 4) (ae_int))) ao_none)) (aa_cons (ae_op (ao_add (K := K)) (ae_op (ao_add (K := K)) (ae_cut (K := K) (ae_v 3) ao_none (ao_some (ae_v 4))) (ae_lst (aa_cons (ae_ix (K := K) (ae_v 3) (ae_v 4)) (aa_nil)))) (ae_cut (K := K) (ae_v 3) (ao_some (ae_v 4)) ao_none)) (aa_cons (ae_v 6) (aa_cons (ae_revL (K := K) (ae_v 3)) (aa_nil))))))) rfl (.inl rfl))
      (ass_cons (as_set 7 sc_law_bent.nd (ae_op (ao_add (K := K)) (ae_v 7) (ae_lst (aa_cons (ae_op (ao_add (K := K)) (ae_v 3) (ae_lst (aa_cons (ae_lst (aa_nil)) (aa_nil)))) (aa_cons (ae_cut (K := K) (ae_v 3) ao_none (ao_some (ae_neg (ae_int)))) (aa_cons (ae_cut (K := K) (ae_v 3) (ao_some (ae_int)) ao_none) (aa_cons (ae_callT (ac_tuple (K := K)) m_tuple (by decide +kernel) (aa_cons (ae_v 3) (aa_nil))) (aa_cons (ae_lst (aa_nil)) (aa_cons (ae_non) (aa_cons (ae_int) (aa_cons (ae_callB ac_sumL m_sum (by decide +kernel) (aa_cons (ae_v 3) (aa_cons (ae_lst (aa_nil)) (aa_nil)))) (aa_nil))))))))))) rfl (.inl rfl))
      (ass_cons (as_setLcM 8 [("_law_one", 11)] sc_law_bent.nd (ai_list (K := K) (ae_v 7)) (sw_true rfl rfl rfl (by decide +kernel)) (blkOk_by (own := [("_law_one", 11)]) (N := ["_law_pen_here", "_law_machine_here", "_law_thing", "_law_layers", "_law_at", "_law_other", "_law_swapped", "_law_some", "_law_got", "_law_word", "_law_bent_here", "_law_one", "_law_row"]) (sc := defScope st_law_bent) (by decide +kernel)) (fun _ _ _ _ _ => ag_name 11 (vs := [11]) sc_law_bent.nd rfl (.inl rfl)) (fun _ _ _ _ _ => ats_nil) (fun _ _ _ _ _ => ae_op (ao_add (K := K)) (ae_cut (K := K) (ae_v 2) ao_none (ao_some (ae_neg (ae_int)))) (ae_tup (aa_cons (ae_v 11) (aa_nil)))))
      (ass_cons (as_if (at_cmp (ao_eq (K := K) hr.units) (ae_callB (ac_len (K := K)) m_len (by decide +kernel) (aa_cons (ae_v 2) (aa_nil))) (ae_int))
      (ass_cons (as_set 8 sc_law_bent.nd (ae_op ao_addM (ae_v 8) (ae_lc [("_law_row", 12)] sc_law_bent.nd (ai_list (K := K) (ae_call (K := K) (g := ⟨w, mg⟩) c_law_lists hr hgd (aa_cons (ae_v 0) (aa_cons (ae_v 1) (aa_cons (ae_ix (K := K) (ae_v 2) (ae_int)) (aa_nil)))))) (blkOk_by (own := [("_law_row", 12)]) (N := ["_law_pen_here", "_law_machine_here", "_law_thing", "_law_layers", "_law_at", "_law_other", "_law_swapped", "_law_some", "_law_got", "_law_word", "_law_bent_here", "_law_one", "_law_row"]) (sc := defScope st_law_bent) (by decide +kernel)) (fun _ _ _ _ _ => ag_name 12 (vs := [12]) sc_law_bent.nd rfl (.inl rfl)) (fun _ _ _ _ _ => ats_nil) (fun _ _ _ _ _ => ae_tup (aa_cons (ae_str) (aa_cons (ae_v 12) (aa_cons (ae_v 3) (aa_nil))))))) rfl (.inl rfl))
      (ass_frz 8 (ass_one (as_set 8 sc_law_bent.nd (ae_op ao_addM (ae_v 8) (ae_lst (aa_cons (ae_tup (aa_cons (ae_str) (aa_cons (ae_op (ao_add (K := K)) (ae_ix (K := K) (ae_v 2) (ae_int)) (ae_lst (aa_cons (ae_int) (aa_nil)))) (aa_cons (ae_op (ao_add (K := K)) (ae_v 3) (ae_lst (aa_cons (ae_lst (aa_cons (ae_int) (aa_nil))) (aa_nil)))) (aa_nil))))) (aa_cons (ae_tup (aa_cons (ae_str) (aa_cons (ae_op (ao_add (K := K)) (ae_ix (K := K) (ae_v 2) (ae_int)) (ae_lst (aa_cons (ae_int) (aa_nil)))) (aa_cons (ae_op (ao_add (K := K)) (ae_v 3) (ae_lst (aa_cons (ae_lst (aa_nil)) (aa_nil)))) (aa_nil))))) (aa_nil))))) rfl (.inl rfl)))))
      (ass_nil))
      (ass_cons (as_for (ai_tup (K := K) (ae_tup (aa_cons (ae_str) (aa_cons (ae_str) (aa_cons (ae_str) (aa_cons (ae_str) (aa_cons (ae_non) (aa_cons (ae_int) (aa_cons (ae_bl) (aa_cons (ae_lst (aa_cons (ae_str) (aa_nil))) (aa_nil))))))))))) (ag_name 9 (vs := [9]) sc_law_bent.nd rfl (.inl rfl))
      (ass_one (as_expr (ae_meth (K := K) PySem.F.plainAttrs_list PySem.F.slot_list_append PySem.F.type_list_append am_append (ae_v 8) (aa_cons (ae_op (ao_add (K := K)) (ae_tup (aa_cons (ae_v 9) (aa_nil))) (ae_cut (K := K) (ae_v 2) (ao_some (ae_int)) ao_none)) (aa_nil))))))
      (ass_frz 8 (ass_cons (as_set 8 sc_law_bent.nd (ae_op ao_addM (ae_v 8) (ae_lst (aa_cons (ae_cut (K := K) (ae_v 2) ao_none (ao_some (ae_neg (ae_int)))) (aa_cons (ae_op (ao_add (K := K)) (ae_v 2) (ae_tup (aa_cons (ae_v 3) (aa_nil)))) (aa_cons (ae_callT (ac_list (K := K)) m_list (by decide +kernel) (aa_cons (ae_v 2) (aa_nil))) (aa_cons (ae_tup (aa_cons (ae_v 2) (aa_nil))) (aa_cons (ae_revT (K := K) (ae_v 2)) (aa_cons (ae_tup (aa_cons (ae_str) (aa_cons (ae_lst (aa_nil)) (aa_cons (ae_v 3) (aa_nil))))) (aa_cons (ae_tup (aa_cons (ae_str) (aa_nil))) (aa_nil)))))))))) rfl (.inl rfl))
      (ass_frz 8 (ass_one (as_ret (ae_op (ao_add (K := K)) (ae_v 8) (ae_lst (aa_cons (ae_non) (aa_cons (ae_int) (aa_cons (ae_bl) (aa_cons (ae_str) (aa_cons (ae_tup (aa_nil)) (aa_cons (ae_lst (aa_nil)) (aa_cons (ae_dict0F) (aa_cons (ae_v 3) (aa_cons (ae_tup (aa_cons (ae_str) (aa_cons (ae_v 3) (aa_nil)))) (aa_cons (ae_tup (aa_cons (ae_str) (aa_cons (ae_lst (aa_nil)) (aa_cons (ae_lst (aa_cons (ae_lst (aa_cons (ae_int) (aa_nil))) (aa_nil))) (aa_nil))))) (aa_nil)))))))))))))))))))))))))))))⟩
abbrev st_law : Stmt := topS 34
theorem sc_law : FnScope ["_law_script", "_law_pen_here", "_law_signs_here", "_law_machine_here", "_law_lists_here", "_law_handed", "_law_thing", "_law_bent_here", "_law_kept", "_law_told", "_law_row"] ["_law_script"] (defScope st_law) := ⟨rfl, rfl, rfl, by decide +kernel, rfl, by decide +kernel, by decide +kernel⟩
theorem okF_law {P : Program} {w : World} {K : PySem.W.Frag} {mg : Str → Option Value} {base : Heap} {f : Addr} {fd : FuncData} (F : L2.Fun K "law" "law" st_law f fd) (m_bool : mg "bool" = none) (m_isinstance : mg "isinstance" = none) (m_len : mg "len" = none) (m_list : mg "list" = none) (m_repr : mg "repr" = none) (c_law_pen : Cal P w K mg base 1 "_law_pen" 2 s_law_pen) (c_law_table : Cal P w K mg base 1 "_law_table" 2 s_law_table) (c_law_true : Cal P w K mg base 1 "_law_true" 2 s_law_true) (c_law_take : Cal P w K mg base 2 "_law_take" 2 s_law_take) (c_law_signs : Cal P w K mg base 3 "_law_signs" 1 s_law_signs) (c_law_ring : Cal P w K mg base 3 "_law_ring" 2 s_law_ring) (c_law_holds : Cal P w K mg base 3 "_law_holds" 2 s_law_holds) (c_holds_shortest : Cal P w K mg base 4 "holds_shortest" 2 s_holds_shortest) (c_law_machine : Cal P w K mg base 4 "_law_machine" 3 s_law_machine) (c_law_written : Cal P w K mg base 4 "_law_written" 2 s_law_written) (c_law_bent : Cal P w K mg base 4 "_law_bent" 3 s_law_bent) : FnG P w K mg base 5 f fd ["_law_script"] (spOf ⟨w, mg⟩ K 1 s_law) := by
  refine fnA (b := a_law) F sc_law ?_ (fun _ _ _ _ h => h)
  intro cdv A outer s H E hr hgd
  have hw : (Bs.nil ⟨w, mg⟩).g = ⟨w, mg⟩ := rfl
  exact ⟨_, ass_cons (as_set 1 sc_law.nd (ae_call (K := K) (g := ⟨w, mg⟩) c_law_pen hr hgd (aa_cons (ae_v 0) (aa_cons (ae_int) (aa_nil)))) rfl (.inl rfl))
      (ass_cons (as_set 2 sc_law.nd (ae_call (K := K) (g := ⟨w, mg⟩) c_law_signs hr hgd (aa_cons (ae_v 1) (aa_nil))) rfl (.inl rfl))
      (ass_cons (as_set 3 sc_law.nd (ae_call (K := K) (g := ⟨w, mg⟩) c_law_machine hr hgd (aa_cons (ae_v 1) (aa_cons (ae_v 2) (aa_cons (ae_int) (aa_nil))))) rfl (.inl rfl))
      (ass_cons (as_if (at_cmp (ao_eq (K := K) hr.units) (ae_call (K := K) (g := ⟨w, mg⟩) c_law_take hr hgd (aa_cons (ae_v 1) (aa_cons (ae_int) (aa_nil)))) (ae_int))
      (ass_one (as_set 3 sc_law.nd (ae_call (K := K) (g := ⟨w, mg⟩) c_law_ring hr hgd (aa_cons (ae_v 1) (aa_cons (ae_v 2) (aa_nil)))) rfl (.inl rfl)))
      (ass_nil))
      (ass_cons (as_set 4 sc_law.nd (ae_call (K := K) (g := ⟨w, mg⟩) c_law_table hr hgd (aa_cons (ae_v 3) (aa_cons (ae_op (ao_add (K := K)) (ae_op ao_mul (ae_int) (ae_callB (ac_len (K := K)) m_len (by decide +kernel) (aa_cons (ae_ix (K := K) (ae_v 3) (ae_int)) (aa_nil)))) (ae_int)) (aa_nil)))) rfl (.inl rfl))
      (ass_cons (as_set 5 sc_law.nd (ae_tup (aa_cons (ae_callT (ac_list (K := K)) m_list (by decide +kernel) (aa_cons (ae_ix (K := K) (ae_v 3) (ae_int)) (aa_nil))) (aa_cons (ae_lc [("_law_row", 10)] sc_law.nd (ai_list (K := K) (ae_ix (K := K) (ae_v 3) (ae_int))) (blkOk_by (own := [("_law_row", 10)]) (N := ["_law_script", "_law_pen_here", "_law_signs_here", "_law_machine_here", "_law_lists_here", "_law_handed", "_law_thing", "_law_bent_here", "_law_kept", "_law_told", "_law_row"]) (sc := defScope st_law) (by decide +kernel)) (fun _ _ _ _ _ => ag_name 10 (vs := [10]) sc_law.nd rfl (.inl rfl)) (fun _ _ _ _ _ => ats_nil) (fun _ _ _ _ _ => ae_callT (ac_list (K := K)) m_list (by decide +kernel) (aa_cons (ae_v 10) (aa_nil)))) (aa_nil)))) rfl (.inl rfl))
      (ass_cons (as_set 1 sc_law.nd (ae_call (K := K) (g := ⟨w, mg⟩) c_law_pen hr hgd (aa_cons (ae_v 0) (aa_cons (ae_int) (aa_nil)))) rfl (.inl rfl))
      (ass_cons (as_for (ai_list (K := K) (ae_call (K := K) (g := ⟨w, mg⟩) c_law_written hr hgd (aa_cons (ae_v 1) (aa_cons (ae_v 3) (aa_nil))))) (ag_name 6 (vs := [6]) sc_law.nd rfl (.inl rfl))
      (ass_cons (as_if (at_cmp ao_isnotB (ae_call (K := K) (g := ⟨w, mg⟩) c_holds_shortest hr hgd (aa_cons (ae_v 5) (aa_cons (ae_v 6) (aa_nil)))) (ae_bl))
      (ass_one (as_ret (ae_bl)))
      (ass_nil))
      (ass_one (as_for (ai_list (K := K) (ae_call (K := K) (g := ⟨w, mg⟩) c_law_bent hr hgd (aa_cons (ae_v 1) (aa_cons (ae_v 3) (aa_cons (ae_v 6) (aa_nil)))))) (ag_name 7 (vs := [7]) sc_law.nd rfl (.inl rfl))
      (ass_cons (as_set 8 sc_law.nd (ae_callB (ac_repr (K := K) hgd (u200 hr)) m_repr (by decide +kernel) (aa_cons (ae_v 7) (aa_nil))) rfl (.inl rfl))
      (ass_cons (as_set 9 sc_law.nd (ae_call (K := K) (g := ⟨w, mg⟩) c_holds_shortest hr hgd (aa_cons (ae_v 5) (aa_cons (ae_v 7) (aa_nil)))) rfl (.inl rfl))
      (ass_cons (as_if (aw_t (aw_or (at_not (at_tru (K := K) (ae_isi (K := K) (ae_v 9) m_isinstance m_bool (by decide +kernel)))) (aw_or1 (at_cmp (ao_ne (K := K) hr.units) (ae_v 9) (ae_call (K := K) (g := ⟨w, mg⟩) c_law_holds hr hgd (aa_cons (ae_v 3) (aa_cons (ae_v 7) (aa_nil))))))))
      (ass_one (as_ret (ae_bl)))
      (ass_nil))
      (ass_one (as_if (aw_t (aw_or (at_cmp (ao_ne (K := K) hr.units) (ae_callB (ac_repr (K := K) hgd (u200 hr)) m_repr (by decide +kernel) (aa_cons (ae_v 7) (aa_nil))) (ae_v 8)) (aw_or (at_cmp (ao_ne (K := K) hr.units) (ae_v 5) (ae_v 3)) (aw_or1 (aw_t (aw_and (at_tru (K := K) (ae_v 9)) (aw_and1 (at_not (at_tru (K := K) (ae_call (K := K) (g := ⟨w, mg⟩) c_law_true hr hgd (aa_cons (ae_v 4) (aa_cons (ae_v 7) (aa_nil)))))))))))))
      (ass_one (as_ret (ae_bl)))
      (ass_nil))))))))))
      (ass_one (as_ret (ae_bl))))))))))⟩
theorem all_mk {l : PySem.W.OpenLaw} {w : World} {K : PySem.W.Frag} {h : Heap} {mg : Str → Option Value} {fa f1 f2 f3 f4 f5 f6 f7 f8 f9 f10 f11 f12 f13 f14 f15 f16 f17 f18 f19 f20 f21 f22 f23 f24 f25 f26 f27 f28 f29 f30 : Addr} (X : K.In h) (G : h.Ns mainGlobals mg) (hfa : mg "law" = some (.ref fa))
    {od1 an1 od2 an2 od3 an3 od4 an4 od5 an5 od6 an6 od7 an7 od8 an8 od9 an9 od10 an10 od11 an11 od12 an12 od13 an13 od14 an14 od15 an15 od16 an16 od17 an17 od18 an18 od19 an19 od20 an20 od21 an21 od22 an22 od23 an23 od24 an24 od25 an25 od26 an26 od27 an27 od28 an28 od29 an29 od30 an30 : Option Addr} {sl1 sl2 sl3 sl4 sl5 sl6 sl7 sl8 sl9 sl10 sl11 sl12 sl13 sl14 sl15 sl16 sl17 sl18 sl19 sl20 sl21 sl22 sl23 sl24 sl25 sl26 sl27 sl28 sl29 sl30 : Array (Option Value)} {oc1 kV1 dc1 pm1 cd1 ct1 oc2 kV2 dc2 pm2 cd2 ct2 oc3 kV3 dc3 pm3 cd3 ct3 oc4 kV4 dc4 pm4 cd4 ct4 oc5 kV5 dc5 pm5 cd5 ct5 oc6 kV6 dc6 pm6 cd6 ct6 oc7 kV7 dc7 pm7 cd7 ct7 oc8 kV8 dc8 pm8 cd8 ct8 oc9 kV9 dc9 pm9 cd9 ct9 oc10 kV10 dc10 pm10 cd10 ct10 oc11 kV11 dc11 pm11 cd11 ct11 oc12 kV12 dc12 pm12 cd12 ct12 oc13 kV13 dc13 pm13 cd13 ct13 oc14 kV14 dc14 pm14 cd14 ct14 oc15 kV15 dc15 pm15 cd15 ct15 oc16 kV16 dc16 pm16 cd16 ct16 oc17 kV17 dc17 pm17 cd17 ct17 oc18 kV18 dc18 pm18 cd18 ct18 oc19 kV19 dc19 pm19 cd19 ct19 oc20 kV20 dc20 pm20 cd20 ct20 oc21 kV21 dc21 pm21 cd21 ct21 oc22 kV22 dc22 pm22 cd22 ct22 oc23 kV23 dc23 pm23 cd23 ct23 oc24 kV24 dc24 pm24 cd24 ct24 oc25 kV25 dc25 pm25 cd25 ct25 oc26 kV26 dc26 pm26 cd26 ct26 oc27 kV27 dc27 pm27 cd27 ct27 oc28 kV28 dc28 pm28 cd28 ct28 oc29 kV29 dc29 pm29 cd29 ct29 oc30 kV30 dc30 pm30 cd30 ct30 : Value}
    (a1 : PySem.W.nsIn K mainGlobals "is_whole" = some (some (.ref f1))) (l1 : K.lookup f1 = some ⟨oc1, od1, .func (PySem.W.fnOf "is_whole" "is_whole" (defArgs st_is_whole) (defBody st_is_whole) (defScope st_is_whole) .none kV1 dc1 pm1 an1 cd1 ct1), sl1⟩) (c1 : PySem.W.codeIn K cd1 "is_whole" = true) (k1 : PySem.W.keepIn K (.ref f1) = true)
    (a2 : PySem.W.nsIn K mainGlobals "led" = some (some (.ref f2))) (l2 : K.lookup f2 = some ⟨oc2, od2, .func (PySem.W.fnOf "led" "led" (defArgs st_led) (defBody st_led) (defScope st_led) .none kV2 dc2 pm2 an2 cd2 ct2), sl2⟩) (c2 : PySem.W.codeIn K cd2 "led" = true) (k2 : PySem.W.keepIn K (.ref f2) = true)
    (a3 : PySem.W.nsIn K mainGlobals "shut_in" = some (some (.ref f3))) (l3 : K.lookup f3 = some ⟨oc3, od3, .func (PySem.W.fnOf "shut_in" "shut_in" (defArgs st_shut_in) (defBody st_shut_in) (defScope st_shut_in) .none kV3 dc3 pm3 an3 cd3 ct3), sl3⟩) (c3 : PySem.W.codeIn K cd3 "shut_in" = true) (k3 : PySem.W.keepIn K (.ref f3) = true)
    (a4 : PySem.W.nsIn K mainGlobals "_law_pen" = some (some (.ref f4))) (l4 : K.lookup f4 = some ⟨oc4, od4, .func (PySem.W.fnOf "_law_pen" "_law_pen" (defArgs st_law_pen) (defBody st_law_pen) (defScope st_law_pen) .none kV4 dc4 pm4 an4 cd4 ct4), sl4⟩) (c4 : PySem.W.codeIn K cd4 "_law_pen" = true) (k4 : PySem.W.keepIn K (.ref f4) = true)
    (a5 : PySem.W.nsIn K mainGlobals "_law_mixed" = some (some (.ref f5))) (l5 : K.lookup f5 = some ⟨oc5, od5, .func (PySem.W.fnOf "_law_mixed" "_law_mixed" (defArgs st_law_mixed) (defBody st_law_mixed) (defScope st_law_mixed) .none kV5 dc5 pm5 an5 cd5 ct5), sl5⟩) (c5 : PySem.W.codeIn K cd5 "_law_mixed" = true) (k5 : PySem.W.keepIn K (.ref f5) = true)
    (a6 : PySem.W.nsIn K mainGlobals "_law_table" = some (some (.ref f6))) (l6 : K.lookup f6 = some ⟨oc6, od6, .func (PySem.W.fnOf "_law_table" "_law_table" (defArgs st_law_table) (defBody st_law_table) (defScope st_law_table) .none kV6 dc6 pm6 an6 cd6 ct6), sl6⟩) (c6 : PySem.W.codeIn K cd6 "_law_table" = true) (k6 : PySem.W.keepIn K (.ref f6) = true)
    (a7 : PySem.W.nsIn K mainGlobals "_law_gone" = some (some (.ref f7))) (l7 : K.lookup f7 = some ⟨oc7, od7, .func (PySem.W.fnOf "_law_gone" "_law_gone" (defArgs st_law_gone) (defBody st_law_gone) (defScope st_law_gone) .none kV7 dc7 pm7 an7 cd7 ct7), sl7⟩) (c7 : PySem.W.codeIn K cd7 "_law_gone" = true) (k7 : PySem.W.keepIn K (.ref f7) = true)
    (a8 : PySem.W.nsIn K mainGlobals "_law_due" = some (some (.ref f8))) (l8 : K.lookup f8 = some ⟨oc8, od8, .func (PySem.W.fnOf "_law_due" "_law_due" (defArgs st_law_due) (defBody st_law_due) (defScope st_law_due) .none kV8 dc8 pm8 an8 cd8 ct8), sl8⟩) (c8 : PySem.W.codeIn K cd8 "_law_due" = true) (k8 : PySem.W.keepIn K (.ref f8) = true)
    (a9 : PySem.W.nsIn K mainGlobals "_law_stands" = some (some (.ref f9))) (l9 : K.lookup f9 = some ⟨oc9, od9, .func (PySem.W.fnOf "_law_stands" "_law_stands" (defArgs st_law_stands) (defBody st_law_stands) (defScope st_law_stands) .none kV9 dc9 pm9 an9 cd9 ct9), sl9⟩) (c9 : PySem.W.codeIn K cd9 "_law_stands" = true) (k9 : PySem.W.keepIn K (.ref f9) = true)
    (a10 : PySem.W.nsIn K mainGlobals "_law_leads" = some (some (.ref f10))) (l10 : K.lookup f10 = some ⟨oc10, od10, .func (PySem.W.fnOf "_law_leads" "_law_leads" (defArgs st_law_leads) (defBody st_law_leads) (defScope st_law_leads) .none kV10 dc10 pm10 an10 cd10 ct10), sl10⟩) (c10 : PySem.W.codeIn K cd10 "_law_leads" = true) (k10 : PySem.W.keepIn K (.ref f10) = true)
    (a11 : PySem.W.nsIn K mainGlobals "_law_row_to" = some (some (.ref f11))) (l11 : K.lookup f11 = some ⟨oc11, od11, .func (PySem.W.fnOf "_law_row_to" "_law_row_to" (defArgs st_law_row_to) (defBody st_law_row_to) (defScope st_law_row_to) .none kV11 dc11 pm11 an11 cd11 ct11), sl11⟩) (c11 : PySem.W.codeIn K cd11 "_law_row_to" = true) (k11 : PySem.W.keepIn K (.ref f11) = true)
    (a12 : PySem.W.nsIn K mainGlobals "_law_true" = some (some (.ref f12))) (l12 : K.lookup f12 = some ⟨oc12, od12, .func (PySem.W.fnOf "_law_true" "_law_true" (defArgs st_law_true) (defBody st_law_true) (defScope st_law_true) .none kV12 dc12 pm12 an12 cd12 ct12), sl12⟩) (c12 : PySem.W.codeIn K cd12 "_law_true" = true) (k12 : PySem.W.keepIn K (.ref f12) = true)
    (a13 : PySem.W.nsIn K mainGlobals "gone" = some (some (.ref f13))) (l13 : K.lookup f13 = some ⟨oc13, od13, .func (PySem.W.fnOf "gone" "gone" (defArgs st_gone) (defBody st_gone) (defScope st_gone) .none kV13 dc13 pm13 an13 cd13 ct13), sl13⟩) (c13 : PySem.W.codeIn K cd13 "gone" = true) (k13 : PySem.W.keepIn K (.ref f13) = true)
    (a14 : PySem.W.nsIn K mainGlobals "is_row" = some (some (.ref f14))) (l14 : K.lookup f14 = some ⟨oc14, od14, .func (PySem.W.fnOf "is_row" "is_row" (defArgs st_is_row) (defBody st_is_row) (defScope st_is_row) .none kV14 dc14 pm14 an14 cd14 ct14), sl14⟩) (c14 : PySem.W.codeIn K cd14 "is_row" = true) (k14 : PySem.W.keepIn K (.ref f14) = true)
    (a15 : PySem.W.nsIn K mainGlobals "are_layers" = some (some (.ref f15))) (l15 : K.lookup f15 = some ⟨oc15, od15, .func (PySem.W.fnOf "are_layers" "are_layers" (defArgs st_are_layers) (defBody st_are_layers) (defScope st_are_layers) .none kV15 dc15 pm15 an15 cd15 ct15), sl15⟩) (c15 : PySem.W.codeIn K cd15 "are_layers" = true) (k15 : PySem.W.keepIn K (.ref f15) = true)
    (a16 : PySem.W.nsIn K mainGlobals "_law_take" = some (some (.ref f16))) (l16 : K.lookup f16 = some ⟨oc16, od16, .func (PySem.W.fnOf "_law_take" "_law_take" (defArgs st_law_take) (defBody st_law_take) (defScope st_law_take) .none kV16 dc16 pm16 an16 cd16 ct16), sl16⟩) (c16 : PySem.W.codeIn K cd16 "_law_take" = true) (k16 : PySem.W.keepIn K (.ref f16) = true)
    (a17 : PySem.W.nsIn K mainGlobals "_law_lets" = some (some (.ref f17))) (l17 : K.lookup f17 = some ⟨oc17, od17, .func (PySem.W.fnOf "_law_lets" "_law_lets" (defArgs st_law_lets) (defBody st_law_lets) (defScope st_law_lets) .none kV17 dc17 pm17 an17 cd17 ct17), sl17⟩) (c17 : PySem.W.codeIn K cd17 "_law_lets" = true) (k17 : PySem.W.keepIn K (.ref f17) = true)
    (a18 : PySem.W.nsIn K mainGlobals "_law_inside" = some (some (.ref f18))) (l18 : K.lookup f18 = some ⟨oc18, od18, .func (PySem.W.fnOf "_law_inside" "_law_inside" (defArgs st_law_inside) (defBody st_law_inside) (defScope st_law_inside) .none kV18 dc18 pm18 an18 cd18 ct18), sl18⟩) (c18 : PySem.W.codeIn K cd18 "_law_inside" = true) (k18 : PySem.W.keepIn K (.ref f18) = true)
    (a19 : PySem.W.nsIn K mainGlobals "lets" = some (some (.ref f19))) (l19 : K.lookup f19 = some ⟨oc19, od19, .func (PySem.W.fnOf "lets" "lets" (defArgs st_lets) (defBody st_lets) (defScope st_lets) .none kV19 dc19 pm19 an19 cd19 ct19), sl19⟩) (c19 : PySem.W.codeIn K cd19 "lets" = true) (k19 : PySem.W.keepIn K (.ref f19) = true)
    (a20 : PySem.W.nsIn K mainGlobals "_law_signs" = some (some (.ref f20))) (l20 : K.lookup f20 = some ⟨oc20, od20, .func (PySem.W.fnOf "_law_signs" "_law_signs" (defArgs st_law_signs) (defBody st_law_signs) (defScope st_law_signs) .none kV20 dc20 pm20 an20 cd20 ct20), sl20⟩) (c20 : PySem.W.codeIn K cd20 "_law_signs" = true) (k20 : PySem.W.keepIn K (.ref f20) = true)
    (a21 : PySem.W.nsIn K mainGlobals "_law_goal" = some (some (.ref f21))) (l21 : K.lookup f21 = some ⟨oc21, od21, .func (PySem.W.fnOf "_law_goal" "_law_goal" (defArgs st_law_goal) (defBody st_law_goal) (defScope st_law_goal) .none kV21 dc21 pm21 an21 cd21 ct21), sl21⟩) (c21 : PySem.W.codeIn K cd21 "_law_goal" = true) (k21 : PySem.W.keepIn K (.ref f21) = true)
    (a22 : PySem.W.nsIn K mainGlobals "_law_ring" = some (some (.ref f22))) (l22 : K.lookup f22 = some ⟨oc22, od22, .func (PySem.W.fnOf "_law_ring" "_law_ring" (defArgs st_law_ring) (defBody st_law_ring) (defScope st_law_ring) .none kV22 dc22 pm22 an22 cd22 ct22), sl22⟩) (c22 : PySem.W.codeIn K cd22 "_law_ring" = true) (k22 : PySem.W.keepIn K (.ref f22) = true)
    (a23 : PySem.W.nsIn K mainGlobals "_law_holds" = some (some (.ref f23))) (l23 : K.lookup f23 = some ⟨oc23, od23, .func (PySem.W.fnOf "_law_holds" "_law_holds" (defArgs st_law_holds) (defBody st_law_holds) (defScope st_law_holds) .none kV23 dc23 pm23 an23 cd23 ct23), sl23⟩) (c23 : PySem.W.codeIn K cd23 "_law_holds" = true) (k23 : PySem.W.keepIn K (.ref f23) = true)
    (a24 : PySem.W.nsIn K mainGlobals "_law_mingled" = some (some (.ref f24))) (l24 : K.lookup f24 = some ⟨oc24, od24, .func (PySem.W.fnOf "_law_mingled" "_law_mingled" (defArgs st_law_mingled) (defBody st_law_mingled) (defScope st_law_mingled) .none kV24 dc24 pm24 an24 cd24 ct24), sl24⟩) (c24 : PySem.W.codeIn K cd24 "_law_mingled" = true) (k24 : PySem.W.keepIn K (.ref f24) = true)
    (a25 : PySem.W.nsIn K mainGlobals "_law_lists" = some (some (.ref f25))) (l25 : K.lookup f25 = some ⟨oc25, od25, .func (PySem.W.fnOf "_law_lists" "_law_lists" (defArgs st_law_lists) (defBody st_law_lists) (defScope st_law_lists) .none kV25 dc25 pm25 an25 cd25 ct25), sl25⟩) (c25 : PySem.W.codeIn K cd25 "_law_lists" = true) (k25 : PySem.W.keepIn K (.ref f25) = true)
    (a26 : PySem.W.nsIn K mainGlobals "holds_shortest" = some (some (.ref f26))) (l26 : K.lookup f26 = some ⟨oc26, od26, .func (PySem.W.fnOf "holds_shortest" "holds_shortest" (defArgs st_holds_shortest) (defBody st_holds_shortest) (defScope st_holds_shortest) .none kV26 dc26 pm26 an26 cd26 ct26), sl26⟩) (c26 : PySem.W.codeIn K cd26 "holds_shortest" = true) (k26 : PySem.W.keepIn K (.ref f26) = true)
    (a27 : PySem.W.nsIn K mainGlobals "_law_machine" = some (some (.ref f27))) (l27 : K.lookup f27 = some ⟨oc27, od27, .func (PySem.W.fnOf "_law_machine" "_law_machine" (defArgs st_law_machine) (defBody st_law_machine) (defScope st_law_machine) .none kV27 dc27 pm27 an27 cd27 ct27), sl27⟩) (c27 : PySem.W.codeIn K cd27 "_law_machine" = true) (k27 : PySem.W.keepIn K (.ref f27) = true)
    (a28 : PySem.W.nsIn K mainGlobals "_law_written" = some (some (.ref f28))) (l28 : K.lookup f28 = some ⟨oc28, od28, .func (PySem.W.fnOf "_law_written" "_law_written" (defArgs st_law_written) (defBody st_law_written) (defScope st_law_written) .none kV28 dc28 pm28 an28 cd28 ct28), sl28⟩) (c28 : PySem.W.codeIn K cd28 "_law_written" = true) (k28 : PySem.W.keepIn K (.ref f28) = true)
    (a29 : PySem.W.nsIn K mainGlobals "_law_bent" = some (some (.ref f29))) (l29 : K.lookup f29 = some ⟨oc29, od29, .func (PySem.W.fnOf "_law_bent" "_law_bent" (defArgs st_law_bent) (defBody st_law_bent) (defScope st_law_bent) .none kV29 dc29 pm29 an29 cd29 ct29), sl29⟩) (c29 : PySem.W.codeIn K cd29 "_law_bent" = true) (k29 : PySem.W.keepIn K (.ref f29) = true)
    (a30 : PySem.W.nsIn K mainGlobals "law" = some (some (.ref f30))) (l30 : K.lookup f30 = some ⟨oc30, od30, .func (PySem.W.fnOf "law" "law" (defArgs st_law) (defBody st_law) (defScope st_law) .none kV30 dc30 pm30 an30 cd30 ct30), sl30⟩) (c30 : PySem.W.codeIn K cd30 "law" = true) (k30 : PySem.W.keepIn K (.ref f30) = true)
    (z0 : PySem.W.nsIn K mainGlobals "abs" = some none)    (z1 : PySem.W.nsIn K mainGlobals "all" = some none)    (z2 : PySem.W.nsIn K mainGlobals "bool" = some none)    (z3 : PySem.W.nsIn K mainGlobals "dict" = some none)    (z4 : PySem.W.nsIn K mainGlobals "enumerate" = some none)    (z5 : PySem.W.nsIn K mainGlobals "int" = some none)    (z6 : PySem.W.nsIn K mainGlobals "isinstance" = some none)    (z7 : PySem.W.nsIn K mainGlobals "len" = some none)    (z8 : PySem.W.nsIn K mainGlobals "list" = some none)    (z9 : PySem.W.nsIn K mainGlobals "max" = some none)    (z10 : PySem.W.nsIn K mainGlobals "range" = some none)    (z11 : PySem.W.nsIn K mainGlobals "repr" = some none)    (z12 : PySem.W.nsIn K mainGlobals "sorted" = some none)    (z13 : PySem.W.nsIn K mainGlobals "str" = some none)    (z14 : PySem.W.nsIn K mainGlobals "sum" = some none)    (z15 : PySem.W.nsIn K mainGlobals "tuple" = some none) :
    ∃ fd : FuncData, (∀ (s : Shared) (v : Value), BindsTo s fd ⟨[v], []⟩ [("_law_script", v)]) ∧ ∀ base : Heap, K.In base → base.Ns mainGlobals mg → FnG l.prog w K mg base 5 fa fd ["_law_script"] (spOf ⟨w, mg⟩ K 1 s_law) := by
  have e := hfa.symm.trans (PySem.W.mg_of X G a30)
  cases e
  have F1 := fun_mk (st := st_is_whole) l1 c1 k1
  have b1 := F1.binds (ps := ["thing"]) fun _ _ _ _ _ _ us hl => match us, hl with | [_], _ => rfl
  have F2 := fun_mk (st := st_led) l2 c2 k2
  have b2 := F2.binds (ps := ["machine", "stand", "number"]) fun _ _ _ _ _ _ us hl => match us, hl with | [_, _, _], _ => rfl
  have F3 := fun_mk (st := st_shut_in) l3 c3 k3
  have b3 := F3.binds (ps := ["machine", "layers", "last"]) fun _ _ _ _ _ _ us hl => match us, hl with | [_, _, _], _ => rfl
  have F4 := fun_mk (st := st_law_pen) l4 c4 k4
  have b4 := F4.binds (ps := ["_law_script", "_law_first"]) fun _ _ _ _ _ _ us hl => match us, hl with | [_, _], _ => rfl
  have F5 := fun_mk (st := st_law_mixed) l5 c5 k5
  have b5 := F5.binds (ps := ["_law_cell", "_law_k"]) fun _ _ _ _ _ _ us hl => match us, hl with | [_, _], _ => rfl
  have F6 := fun_mk (st := st_law_table) l6 c6 k6
  have b6 := F6.binds (ps := ["_law_machine_here", "_law_most"]) fun _ _ _ _ _ _ us hl => match us, hl with | [_, _], _ => rfl
  have F7 := fun_mk (st := st_law_gone) l7 c7 k7
  have b7 := F7.binds (ps := ["_law_machine_here", "_law_stand", "_law_row"]) fun _ _ _ _ _ _ us hl => match us, hl with | [_, _, _], _ => rfl
  have F8 := fun_mk (st := st_law_due) l8 c8 k8
  have b8 := F8.binds (ps := ["_law_machine_here"]) fun _ _ _ _ _ _ us hl => match us, hl with | [_], _ => rfl
  have F9 := fun_mk (st := st_law_stands) l9 c9 k9
  have b9 := F9.binds (ps := ["_law_machine_here", "_law_thing"]) fun _ _ _ _ _ _ us hl => match us, hl with | [_, _], _ => rfl
  have F10 := fun_mk (st := st_law_leads) l10 c10 k10
  have b10 := F10.binds (ps := ["_law_machine_here", "_law_stand", "_law_among"]) fun _ _ _ _ _ _ us hl => match us, hl with | [_, _, _], _ => rfl
  have F11 := fun_mk (st := st_law_row_to) l11 c11 k11
  have b11 := F11.binds (ps := ["_law_machine_here", "_law_start", "_law_goals"]) fun _ _ _ _ _ _ us hl => match us, hl with | [_, _, _], _ => rfl
  have F12 := fun_mk (st := st_law_true) l12 c12 k12
  have b12 := F12.binds (ps := ["_law_lists_here", "_law_thing"]) fun _ _ _ _ _ _ us hl => match us, hl with | [_, _], _ => rfl
  have F13 := fun_mk (st := st_gone) l13 c13 k13
  have b13 := F13.binds (ps := ["machine", "stand", "row"]) fun _ _ _ _ _ _ us hl => match us, hl with | [_, _, _], _ => rfl
  have F14 := fun_mk (st := st_is_row) l14 c14 k14
  have b14 := F14.binds (ps := ["machine", "thing"]) fun _ _ _ _ _ _ us hl => match us, hl with | [_, _], _ => rfl
  have F15 := fun_mk (st := st_are_layers) l15 c15 k15
  have b15 := F15.binds (ps := ["machine", "thing"]) fun _ _ _ _ _ _ us hl => match us, hl with | [_, _], _ => rfl
  have F16 := fun_mk (st := st_law_take) l16 c16 k16
  have b16 := F16.binds (ps := ["_law_pen_here", "_law_most"]) fun _ _ _ _ _ _ us hl => match us, hl with | [_, _], _ => rfl
  have F17 := fun_mk (st := st_law_lets) l17 c17 k17
  have b17 := F17.binds (ps := ["_law_machine_here", "_law_row"]) fun _ _ _ _ _ _ us hl => match us, hl with | [_, _], _ => rfl
  have F18 := fun_mk (st := st_law_inside) l18 c18 k18
  have b18 := F18.binds (ps := ["_law_machine_here", "_law_layers", "_law_last"]) fun _ _ _ _ _ _ us hl => match us, hl with | [_, _, _], _ => rfl
  have F19 := fun_mk (st := st_lets) l19 c19 k19
  have b19 := F19.binds (ps := ["machine", "row"]) fun _ _ _ _ _ _ us hl => match us, hl with | [_, _], _ => rfl
  have F20 := fun_mk (st := st_law_signs) l20 c20 k20
  have b20 := F20.binds (ps := ["_law_pen_here"]) fun _ _ _ _ _ _ us hl => match us, hl with | [_], _ => rfl
  have F21 := fun_mk (st := st_law_goal) l21 c21 k21
  have b21 := F21.binds (ps := ["_law_pen_here", "_law_stand", "_law_stands_here", "_law_way"]) fun _ _ _ _ _ _ us hl => match us, hl with | [_, _, _, _], _ => rfl
  have F22 := fun_mk (st := st_law_ring) l22 c22 k22
  have b22 := F22.binds (ps := ["_law_pen_here", "_law_signs_here"]) fun _ _ _ _ _ _ us hl => match us, hl with | [_, _], _ => rfl
  have F23 := fun_mk (st := st_law_holds) l23 c23 k23
  have b23 := F23.binds (ps := ["_law_machine_here", "_law_thing"]) fun _ _ _ _ _ _ us hl => match us, hl with | [_, _], _ => rfl
  have F24 := fun_mk (st := st_law_mingled) l24 c24 k24
  have b24 := F24.binds (ps := ["_law_pen_here", "_law_layers"]) fun _ _ _ _ _ _ us hl => match us, hl with | [_, _], _ => rfl
  have F25 := fun_mk (st := st_law_lists) l25 c25 k25
  have b25 := F25.binds (ps := ["_law_pen_here", "_law_machine_here", "_law_some"]) fun _ _ _ _ _ _ us hl => match us, hl with | [_, _, _], _ => rfl
  have F26 := fun_mk (st := st_holds_shortest) l26 c26 k26
  have b26 := F26.binds (ps := ["machine", "thing"]) fun _ _ _ _ _ _ us hl => match us, hl with | [_, _], _ => rfl
  have F27 := fun_mk (st := st_law_machine) l27 c27 k27
  have b27 := F27.binds (ps := ["_law_pen_here", "_law_signs_here", "_law_most"]) fun _ _ _ _ _ _ us hl => match us, hl with | [_, _, _], _ => rfl
  have F28 := fun_mk (st := st_law_written) l28 c28 k28
  have b28 := F28.binds (ps := ["_law_pen_here", "_law_machine_here"]) fun _ _ _ _ _ _ us hl => match us, hl with | [_, _], _ => rfl
  have F29 := fun_mk (st := st_law_bent) l29 c29 k29
  have b29 := F29.binds (ps := ["_law_pen_here", "_law_machine_here", "_law_thing"]) fun _ _ _ _ _ _ us hl => match us, hl with | [_, _, _], _ => rfl
  have F30 := fun_mk (st := st_law) l30 c30 k30
  have b30 := F30.binds (ps := ["_law_script"]) fun _ _ _ _ _ _ us hl => match us, hl with | [_], _ => rfl
  have m_abs := PySem.W.mg_none_of X G z0
  have m_all := PySem.W.mg_none_of X G z1
  have m_bool := PySem.W.mg_none_of X G z2
  have m_dict := PySem.W.mg_none_of X G z3
  have m_enumerate := PySem.W.mg_none_of X G z4
  have m_int := PySem.W.mg_none_of X G z5
  have m_isinstance := PySem.W.mg_none_of X G z6
  have m_len := PySem.W.mg_none_of X G z7
  have m_list := PySem.W.mg_none_of X G z8
  have m_max := PySem.W.mg_none_of X G z9
  have m_range := PySem.W.mg_none_of X G z10
  have m_repr := PySem.W.mg_none_of X G z11
  have m_sorted := PySem.W.mg_none_of X G z12
  have m_str := PySem.W.mg_none_of X G z13
  have m_sum := PySem.W.mg_none_of X G z14
  have m_tuple := PySem.W.mg_none_of X G z15
  refine ⟨PySem.W.fnOf "law" "law" (defArgs st_law) (defBody st_law) (defScope st_law) .none kV30 dc30 pm30 an30 cd30 ct30, fun s v => .of_eq rfl, fun base _ _ => ?_⟩
  have c_is_whole : Cal l.prog w K mg base 1 "is_whole" 1 s_is_whole := ok_is_whole F1 (PySem.W.mg_of X G a1) b1 m_bool m_int m_isinstance
  have c_led : Cal l.prog w K mg base 1 "led" 3 s_led := ok_led F2 (PySem.W.mg_of X G a2) b2 
  have c_shut_in : Cal l.prog w K mg base 1 "shut_in" 3 s_shut_in := ok_shut_in F3 (PySem.W.mg_of X G a3) b3 m_all m_dict m_len m_range
  have c_law_pen : Cal l.prog w K mg base 1 "_law_pen" 2 s_law_pen := ok_law_pen F4 (PySem.W.mg_of X G a4) b4 
  have c_law_mixed : Cal l.prog w K mg base 1 "_law_mixed" 2 s_law_mixed := ok_law_mixed F5 (PySem.W.mg_of X G a5) b5 
  have c_law_table : Cal l.prog w K mg base 1 "_law_table" 2 s_law_table := ok_law_table F6 (PySem.W.mg_of X G a6) b6 m_int m_len m_sum
  have c_law_gone : Cal l.prog w K mg base 1 "_law_gone" 3 s_law_gone := ok_law_gone F7 (PySem.W.mg_of X G a7) b7 
  have c_law_due : Cal l.prog w K mg base 1 "_law_due" 1 s_law_due := ok_law_due F8 (PySem.W.mg_of X G a8) b8 m_enumerate m_len m_max m_range m_sorted
  have c_law_stands : Cal l.prog w K mg base 1 "_law_stands" 2 s_law_stands := ok_law_stands F9 (PySem.W.mg_of X G a9) b9 m_bool m_int m_isinstance m_len m_list
  have c_law_leads : Cal l.prog w K mg base 1 "_law_leads" 3 s_law_leads := ok_law_leads F10 (PySem.W.mg_of X G a10) b10 m_all
  have c_law_row_to : Cal l.prog w K mg base 1 "_law_row_to" 3 s_law_row_to := ok_law_row_to F11 (PySem.W.mg_of X G a11) b11 m_enumerate m_len
  have c_law_true : Cal l.prog w K mg base 1 "_law_true" 2 s_law_true := ok_law_true F12 (PySem.W.mg_of X G a12) b12 m_all m_len
  have c_gone : Cal l.prog w K mg base 2 "gone" 3 s_gone := ok_gone F13 (PySem.W.mg_of X G a13) b13 c_led
  have c_is_row : Cal l.prog w K mg base 2 "is_row" 2 s_is_row := ok_is_row F14 (PySem.W.mg_of X G a14) b14 m_all m_isinstance m_len m_list c_is_whole
  have c_are_layers : Cal l.prog w K mg base 2 "are_layers" 2 s_are_layers := ok_are_layers F15 (PySem.W.mg_of X G a15) b15 m_all m_isinstance m_len m_list c_is_whole
  have c_law_take : Cal l.prog w K mg base 2 "_law_take" 2 s_law_take := ok_law_take F16 (PySem.W.mg_of X G a16) b16 m_abs m_len c_law_mixed
  have c_law_lets : Cal l.prog w K mg base 2 "_law_lets" 2 s_law_lets := ok_law_lets F17 (PySem.W.mg_of X G a17) b17 c_law_gone
  have c_law_inside : Cal l.prog w K mg base 2 "_law_inside" 3 s_law_inside := ok_law_inside F18 (PySem.W.mg_of X G a18) b18 m_range m_sum c_law_leads
  have c_lets : Cal l.prog w K mg base 3 "lets" 2 s_lets := ok_lets F19 (PySem.W.mg_of X G a19) b19 c_gone
  have c_law_signs : Cal l.prog w K mg base 3 "_law_signs" 1 s_law_signs := ok_law_signs F20 (PySem.W.mg_of X G a20) b20 c_law_take
  have c_law_goal : Cal l.prog w K mg base 3 "_law_goal" 4 s_law_goal := ok_law_goal F21 (PySem.W.mg_of X G a21) b21 c_law_take
  have c_law_ring : Cal l.prog w K mg base 3 "_law_ring" 2 s_law_ring := ok_law_ring F22 (PySem.W.mg_of X G a22) b22 m_range c_law_take
  have c_law_holds : Cal l.prog w K mg base 3 "_law_holds" 2 s_law_holds := ok_law_holds F23 (PySem.W.mg_of X G a23) b23 m_all m_bool m_int m_isinstance m_len m_list m_str m_tuple c_law_stands c_law_lets c_law_inside
  have c_law_mingled : Cal l.prog w K mg base 3 "_law_mingled" 2 s_law_mingled := ok_law_mingled F24 (PySem.W.mg_of X G a24) b24 m_enumerate c_law_take
  have c_law_lists : Cal l.prog w K mg base 3 "_law_lists" 3 s_law_lists := ok_law_lists F25 (PySem.W.mg_of X G a25) b25 m_len m_max m_tuple c_law_take
  have c_holds_shortest : Cal l.prog w K mg base 4 "holds_shortest" 2 s_holds_shortest := ok_holds_shortest F26 (PySem.W.mg_of X G a26) b26 m_isinstance m_len m_str m_tuple c_shut_in c_is_row c_are_layers c_lets
  have c_law_machine : Cal l.prog w K mg base 4 "_law_machine" 3 s_law_machine := ok_law_machine F27 (PySem.W.mg_of X G a27) b27 m_int m_range c_law_take c_law_goal
  have c_law_written : Cal l.prog w K mg base 4 "_law_written" 2 s_law_written := ok_law_written F28 (PySem.W.mg_of X G a28) b28 m_len m_range m_sum c_law_due c_law_row_to c_law_mingled
  have c_law_bent : Cal l.prog w K mg base 4 "_law_bent" 3 s_law_bent := ok_law_bent F29 (PySem.W.mg_of X G a29) b29 m_len m_list m_sum m_tuple c_law_take c_law_lists
  exact okF_law F30 m_bool m_isinstance m_len m_list m_repr c_law_pen c_law_table c_law_true c_law_take c_law_signs c_law_ring c_law_holds c_holds_shortest c_law_machine c_law_written c_law_bent
end A_k33
open PySem PySem.W PyProof.Rows
set_option maxHeartbeats 0 in
theorem PySem.Challenge.cw_wordrules_k33_what_is_a_shortest_holds : PySem.Challenge.rw_wordrules_k33_what_is_a_shortest.Holds := by
  w_on; o_law; k_head; (case hw => w_witness2)
  k_fill
  refine AL.walk_G (l := PySem.Challenge.rw_wordrules_k33_what_is_a_shortest) (n := 63) (k := 5) (x := "_law_script") (sp := fun w mg => AL.spOf ⟨w, mg⟩ _ 1 A_k33.s_law) rfl (by decide) rfl ⟨rfl, by decide, by decide⟩ (fun w h Y => PySem.W.kIn_of Y) ?F (fun _ _ H a ns hl _ hS => AL.law_sp A_k33.law_true _ _ H a ns hl hS)
  case F =>
    intro w mg fa h KX G hmg
    refine' A_k33.all_mk KX G hmg ?a1 ?l1 ?c1 ?k1 ?a2 ?l2 ?c2 ?k2 ?a3 ?l3 ?c3 ?k3 ?a4 ?l4 ?c4 ?k4 ?a5 ?l5 ?c5 ?k5 ?a6 ?l6 ?c6 ?k6 ?a7 ?l7 ?c7 ?k7 ?a8 ?l8 ?c8 ?k8 ?a9 ?l9 ?c9 ?k9 ?a10 ?l10 ?c10 ?k10 ?a11 ?l11 ?c11 ?k11 ?a12 ?l12 ?c12 ?k12 ?a13 ?l13 ?c13 ?k13 ?a14 ?l14 ?c14 ?k14 ?a15 ?l15 ?c15 ?k15 ?a16 ?l16 ?c16 ?k16 ?a17 ?l17 ?c17 ?k17 ?a18 ?l18 ?c18 ?k18 ?a19 ?l19 ?c19 ?k19 ?a20 ?l20 ?c20 ?k20 ?a21 ?l21 ?c21 ?k21 ?a22 ?l22 ?c22 ?k22 ?a23 ?l23 ?c23 ?k23 ?a24 ?l24 ?c24 ?k24 ?a25 ?l25 ?c25 ?k25 ?a26 ?l26 ?c26 ?k26 ?a27 ?l27 ?c27 ?k27 ?a28 ?l28 ?c28 ?k28 ?a29 ?l29 ?c29 ?k29 ?a30 ?l30 ?c30 ?k30 ?z0 ?z1 ?z2 ?z3 ?z4 ?z5 ?z6 ?z7 ?z8 ?z9 ?z10 ?z11 ?z12 ?z13 ?z14 ?z15
    (case a1 => k_is); (case l1 => k_is); (case c1 => k_is); (case k1 => k_is); (case a2 => k_is); (case l2 => k_is); (case c2 => k_is); (case k2 => k_is)
    (case a3 => k_is); (case l3 => k_is); (case c3 => k_is); (case k3 => k_is); (case a4 => k_is); (case l4 => k_is); (case c4 => k_is); (case k4 => k_is)
    (case a5 => k_is); (case l5 => k_is); (case c5 => k_is); (case k5 => k_is); (case a6 => k_is); (case l6 => k_is); (case c6 => k_is); (case k6 => k_is)
    (case a7 => k_is); (case l7 => k_is); (case c7 => k_is); (case k7 => k_is); (case a8 => k_is); (case l8 => k_is); (case c8 => k_is); (case k8 => k_is)
    (case a9 => k_is); (case l9 => k_is); (case c9 => k_is); (case k9 => k_is); (case a10 => k_is); (case l10 => k_is); (case c10 => k_is); (case k10 => k_is)
    (case a11 => k_is); (case l11 => k_is); (case c11 => k_is); (case k11 => k_is); (case a12 => k_is); (case l12 => k_is); (case c12 => k_is); (case k12 => k_is)
    (case a13 => k_is); (case l13 => k_is); (case c13 => k_is); (case k13 => k_is); (case a14 => k_is); (case l14 => k_is); (case c14 => k_is); (case k14 => k_is)
    (case a15 => k_is); (case l15 => k_is); (case c15 => k_is); (case k15 => k_is); (case a16 => k_is); (case l16 => k_is); (case c16 => k_is); (case k16 => k_is)
    (case a17 => k_is); (case l17 => k_is); (case c17 => k_is); (case k17 => k_is); (case a18 => k_is); (case l18 => k_is); (case c18 => k_is); (case k18 => k_is)
    (case a19 => k_is); (case l19 => k_is); (case c19 => k_is); (case k19 => k_is); (case a20 => k_is); (case l20 => k_is); (case c20 => k_is); (case k20 => k_is)
    (case a21 => k_is); (case l21 => k_is); (case c21 => k_is); (case k21 => k_is); (case a22 => k_is); (case l22 => k_is); (case c22 => k_is); (case k22 => k_is)
    (case a23 => k_is); (case l23 => k_is); (case c23 => k_is); (case k23 => k_is); (case a24 => k_is); (case l24 => k_is); (case c24 => k_is); (case k24 => k_is)
    (case a25 => k_is); (case l25 => k_is); (case c25 => k_is); (case k25 => k_is); (case a26 => k_is); (case l26 => k_is); (case c26 => k_is); (case k26 => k_is)
    (case a27 => k_is); (case l27 => k_is); (case c27 => k_is); (case k27 => k_is); (case a28 => k_is); (case l28 => k_is); (case c28 => k_is); (case k28 => k_is)
    (case a29 => k_is); (case l29 => k_is); (case c29 => k_is); (case k29 => k_is); (case a30 => k_is); (case l30 => k_is); (case c30 => k_is); (case k30 => k_is)
    (case z0 => k_is); (case z1 => k_is); (case z2 => k_is); (case z3 => k_is); (case z4 => k_is); (case z5 => k_is); (case z6 => k_is); (case z7 => k_is)
    (case z8 => k_is); (case z9 => k_is); (case z10 => k_is); (case z11 => k_is); (case z12 => k_is); (case z13 => k_is); (case z14 => k_is); (case z15 => k_is)
