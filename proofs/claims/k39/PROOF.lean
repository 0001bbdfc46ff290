import PyProof.Rows.All
import Wide.All
import OpenK.AllK
import Wide.FinOn
import HandS.ForMost
import HandS.IsInst
import HandS.Flow
import HandS.Style
import HandS.TupAny
import HandS.Codes
import HandS.Wide
import HandS.Deep
import HandS.Zip
import HandS.Exc
import HandS.ExcOwn
import HandS.TryMany
import HandS.WordsExc
import KE.KDictKeyed
import HandS.TupMul
import HandS.Dict
import HandS.Words
import HandS.Text
import HandS.More
import PyProof.ListStr
import KE.DatumOrd
import HandS.List
import HandS.Replace
import PyProof.Rows.StrRev
import PyProof.Rows.StrTemp
import PyProof.SliceStr2
import HandS.Ends
import HandS.RaiseMore
import PyProof.ReprRoads
import PyProof.ReprLen
import PyProof.StrLawsRepr
import PyProof.CallFns
import PyProof.StrOps2
import KE.GoesEnum
import KE.GoesNew
import HandS.Iter
import PyProof.SumAny
import PyProof.Rows.SumGenD
import PyProof.TwoTypesSub
import HandS.Strs
import PyProof.StrWalks
import HandS.Proxy
import PyProof.NeKinds
import KE.KDictDisplayH
import PyProof.TupleOfStr
import PyProof.Rows.SortShellAny
import HandS.Conv
import HandS.DictComp
import HandS.DeepEq
import PyProof.ListMulRight
import PyProof.AutoIntG3
import KE.DataFind
import PyProof.Rows.TupTab
import HandS.ExcIs
import PyProof.Rows.CountFlat
import HandS.TupLen
import HandS.SetKeys
import PyProof.CollectStr
import HandS.ExcInit
import KE.KDictWalk
import PyProof.SumWalk
import PyProof.ListOps
import KE.KDictZip
import PySem.Challenge.RW_wordrules_k39_words_and_rules_exchanged
set_option Elab.async false
set_option linter.all false
set_option maxRecDepth 100000
set_option maxHeartbeats 4000000
namespace AL
open PySem PySem.Spec L2
inductive D where
  | non | bl (b : Bool) | int (i : Int) | str (x : Str) | lst (xs : List D) | tup (xs : List D) | dk (kvs : List (Key × D)) | scr (ns : List Int) | ce (a : Addr)
  deriving Inhabited
inductive Cell where
  | lst (xs : List D) | dk (kvs : List (Key × D)) | dn (kvs : List (NestedKey × D)) | exc (nm : Str) | ob (nm : Str) (fs : List (Str × D)) | dw (lk : Option (Obj × List (NestedKey × Addr × V))) (kvs : List (D × D))
abbrev AH := Addr → Option Cell
def put (C : AH) (a : Addr) (c : Cell) : AH := fun b => if b = a then some c else C b
def del (C : AH) (a : Addr) : AH := fun b => if b = a then none else C b
@[simp] theorem put_same {C : AH} {a : Addr} {c : Cell} : put C a c a = some c := by unfold put; rw [if_pos rfl]
theorem put_ne {C : AH} {a b : Addr} {c : Cell} (h : b ≠ a) : put C a c b = C b := by unfold put; rw [if_neg h]
@[simp] theorem put_put {C : AH} {a : Addr} {c d : Cell} : put (put C a c) a d = put C a d := by
  funext b; unfold put; split <;> rfl
def Ex (H H' : Hp) : Prop := ∀ a o, H a = some o → H' a = some o
theorem Ex.refl (H : Hp) : Ex H H := fun _ _ h => h
theorem Ex.trans {H H1 H2 : Hp} (a : Ex H H1) (b : Ex H1 H2) : Ex H H2 := fun x o h => b x o (a x o h)
theorem Ex.new {H : Hp} {p : Addr} {o : HO} (h : H p = none) : Ex H (upd H p o) := fun a u e => by
  rw [upd_ne (ne_of_none e h)]
  exact e
theorem Ex.l {K : PySem.W.Frag} {H H' : Hp} {a : Addr} {xs : List V} (e : Ex H H') (h : SqL K H a xs) : SqL K H' a xs := by
  rcases h with (h | ⟨o, h⟩) | h
  · exact Or.inl (Or.inl (e a _ h))
  · exact Or.inl (Or.inr ⟨o, e a _ h⟩)
  · exact Or.inr h
theorem Ex.back {H H' : Hp} {p : Addr} (e : Ex H H') (h : H' p = none) : H p = none := by
  cases h1 : H p with
  | none => rfl
  | some o => rw [e p o h1] at h; cases h
def wkP : List D → Bool
  | [.int _, _] => true
  | _ => false
/-- at a stands a tuple -/
def TupS (F : Hp) (a : Addr) (xs : List V) (ds : List D) : Prop := Rd F a (.tup xs) ∧ (wkP ds = false → ∃ o : Obj, o.dict = none ∧ F a = some (.frz o (.tup xs)))
theorem rdUp {F F' : Hp} {a : Addr} {u : HO} (h : Rd F a u) (e : Ex F F') : Rd F' a u := by
  rcases h with h | ⟨o, h⟩
  · exact .inl (e a _ h)
  · exact .inr ⟨o, e a _ h⟩
theorem TupS.mono {F F' : Hp} {a : Addr} {xs : List V} {ds : List D} (h : TupS F a xs ds) (e : Ex F F') : TupS F' a xs ds :=
  ⟨rdUp h.1 e, fun q => let ⟨o, h1, h2⟩ := h.2 q; ⟨o, h1, e a _ h2⟩⟩
theorem TupS.sq {K : PySem.W.Frag} {F H : Hp} {a : Addr} {xs : List V} {ds : List D} (h : TupS F a xs ds) (e : Ex F H) : SqT K H a xs := .inl (rdUp h.1 e)
theorem SqT.of {K : PySem.W.Frag} {H : Hp} {a : Addr} {xs : List V} (h : Rd H a (.tup xs)) : SqT K H a xs := .inl h
theorem TupS.frz {F : Hp} {a : Addr} {xs : List V} {ds : List D} {o : Obj} (h1 : o.dict = none) (h2 : F a = some (.frz o (.tup xs))) : TupS F a xs ds := ⟨.inr ⟨o, h2⟩, fun _ => ⟨o, h1, h2⟩⟩
mutual
inductive Rep (K : PySem.W.Frag) (F : Hp) : V → D → Prop
  | non : Rep K F .non .non
  | bl (b : Bool) : Rep K F (.bl b) (.bl b)
  | int (i : Int) : Rep K F (.int i) (.int i)
  | str (x : Str) : Rep K F (.str x) (.str x)
  | lst {a : Addr} {xs : List V} {ds : List D} : F a = some (.lst xs) → RepL K F xs ds → Rep K F (.ref a) (.lst ds)
  | tup {a : Addr} {xs : List V} {ds : List D} : TupS F a xs ds → RepL K F xs ds → Rep K F (.ref a) (.tup ds)
  | dk {a : Addr} {kvs : List (Key × V)} {es : List (Key × D)} : F a = some (.dK kvs) → RepK K F kvs es → Rep K F (.ref a) (.dk es)
  | scr {a : Addr} {ns : List Int} : SqL K F a (ns.map V.int) → Rep K F (.ref a) (.scr ns)
  | ce (a : Addr) : Rep K F (.ref a) (.ce a)
inductive RepL (K : PySem.W.Frag) (F : Hp) : List V → List D → Prop
  | nil : RepL K F [] []
  | cons {v : V} {vs : List V} {d : D} {ds : List D} : Rep K F v d → RepL K F vs ds → RepL K F (v :: vs) (d :: ds)
inductive RepK (K : PySem.W.Frag) (F : Hp) : List (Key × V) → List (Key × D) → Prop
  | nil : RepK K F [] []
  | cons {k : Key} {v : V} {vs : List (Key × V)} {d : D} {ds : List (Key × D)} : Rep K F v d → RepK K F vs ds → RepK K F ((k, v) :: vs) ((k, d) :: ds)
end
mutual
theorem Rep.mono {K : PySem.W.Frag} {F F' : Hp} (e : Ex F F') : ∀ {v : V} {d : D}, Rep K F v d → Rep K F' v d
  | _, _, .non => .non
  | _, _, .bl b => .bl b
  | _, _, .int i => .int i
  | _, _, .str x => .str x
  | _, _, .lst h r => .lst (e _ _ h) (RepL.mono e r)
  | _, _, .tup h r => .tup (h.mono e) (RepL.mono e r)
  | _, _, .dk h r => .dk (e _ _ h) (RepK.mono e r)
  | _, _, .scr h => .scr (e.l h)
  | _, _, .ce a => .ce a
theorem RepL.mono {K : PySem.W.Frag} {F F' : Hp} (e : Ex F F') : ∀ {vs : List V} {ds : List D}, RepL K F vs ds → RepL K F' vs ds
  | _, _, .nil => .nil
  | _, _, .cons r t => .cons (Rep.mono e r) (RepL.mono e t)
theorem RepK.mono {K : PySem.W.Frag} {F F' : Hp} (e : Ex F F') : ∀ {vs : List (Key × V)} {ds : List (Key × D)}, RepK K F vs ds → RepK K F' vs ds
  | _, _, .nil => .nil
  | _, _, .cons r t => .cons (Rep.mono e r) (RepK.mono e t)
end
section
variable {K : PySem.W.Frag} {F F' : Hp}
theorem RepL.length : ∀ {vs : List V} {ds : List D}, RepL K F vs ds → vs.length = ds.length
  | _, _, .nil => rfl
  | _, _, .cons _ t => by rw [List.length_cons, List.length_cons, RepL.length t]
theorem RepL.get : ∀ {vs : List V} {ds : List D} {i : Nat} {v : V}, RepL K F vs ds → vs[i]? = some v → ∃ d, ds[i]? = some d ∧ Rep K F v d
  | _, _, _, _, .nil, e => by simp at e
  | _, _, 0, _, .cons r _, e => by simp at e; subst e; exact ⟨_, rfl, r⟩
  | _, _, i + 1, v, .cons _ t, e => by
    obtain ⟨u, h1, h2⟩ := RepL.get (i := i) (v := v) t (by simpa using e)
    exact ⟨u, by simpa using h1, h2⟩
theorem RepL.getD : ∀ {vs : List V} {ds : List D} {i : Nat} {d : D}, RepL K F vs ds → ds[i]? = some d → ∃ v, vs[i]? = some v ∧ Rep K F v d
  | _, _, _, _, .nil, e => by simp at e
  | _, _, 0, _, .cons r _, e => by simp at e; subst e; exact ⟨_, rfl, r⟩
  | _, _, i + 1, v, .cons _ t, e => by
    obtain ⟨u, h1, h2⟩ := RepL.getD (i := i) (d := v) t (by simpa using e)
    exact ⟨u, by simpa using h1, h2⟩
theorem RepL.set {x : V} {u : D} (r : Rep K F x u) : ∀ {xs : List V} {us : List D} (i : Nat), RepL K F xs us → RepL K F (xs.set i x) (us.set i u)
  | _, _, _, .nil => .nil
  | _, _, 0, .cons _ t => .cons r t
  | _, _, i + 1, .cons q t => .cons q (RepL.set r i t)
theorem RepL.append : ∀ {xs ys : List V} {us ws : List D}, RepL K F xs us → RepL K F ys ws → RepL K F (xs ++ ys) (us ++ ws)
  | _, _, _, _, .nil, s => s
  | _, _, _, _, .cons r t, s => .cons r (RepL.append t s)
theorem RepL.take : ∀ {xs : List V} {us : List D} (n : Nat), RepL K F xs us → RepL K F (xs.take n) (us.take n)
  | _, _, 0, _ => .nil
  | _, _, _ + 1, .nil => .nil
  | _, _, n + 1, .cons r t => .cons r (RepL.take n t)
theorem RepL.drop : ∀ {xs : List V} {us : List D} (n : Nat), RepL K F xs us → RepL K F (xs.drop n) (us.drop n)
  | _, _, 0, r => r
  | _, _, _ + 1, .nil => .nil
  | _, _, n + 1, .cons _ t => RepL.drop n t
theorem RepL.reverse : ∀ {xs : List V} {us : List D}, RepL K F xs us → RepL K F xs.reverse us.reverse
  | _, _, .nil => .nil
  | _, _, .cons r t => by
    rw [List.reverse_cons, List.reverse_cons]
    exact RepL.append (RepL.reverse t) (.cons r .nil)
theorem RepL.erase : ∀ {xs : List V} {us : List D} (i : Nat), RepL K F xs us → RepL K F (xs.eraseIdx i) (us.eraseIdx i)
  | _, _, _, .nil => .nil
  | _, _, 0, .cons _ t => t
  | _, _, i + 1, .cons q t => .cons q (RepL.erase i t)
theorem RepL.ints : ∀ ns : List Int, RepL K F (ns.map V.int) (ns.map D.int)
  | [] => .nil
  | n :: ns => .cons (.int n) (RepL.ints ns)
theorem RepL.strs : ∀ ns : List Str, RepL K F (ns.map V.str) (ns.map D.str)
  | [] => .nil
  | n :: ns => .cons (.str n) (RepL.strs ns)
theorem RepL.ofInts : ∀ {xs : List V} {ns : List Int}, RepL K F xs (ns.map D.int) → xs = ns.map V.int
  | _, [], .nil => rfl
  | _, n :: ns, .cons (.int _) t => by rw [List.map_cons, RepL.ofInts t]
theorem RepL.ofStrs : ∀ {xs : List V} {ns : List Str}, RepL K F xs (ns.map D.str) → xs = ns.map V.str
  | _, [], .nil => rfl
  | _, n :: ns, .cons (.str _) t => by rw [List.map_cons, RepL.ofStrs t]
theorem RepL.ofBls : ∀ {xs : List V} {ns : List Bool}, RepL K F xs (ns.map D.bl) → xs = ns.map V.bl
  | _, [], .nil => rfl
  | _, n :: ns, .cons (.bl _) t => by rw [List.map_cons, RepL.ofBls t]
end
/-- entries whose keys are tuples -/
inductive RepT (K : PySem.W.Frag) (F : Hp) : List (List Key × V) → List (List Key × D) → Prop
  | nil : RepT K F [] []
  | cons {k : List Key} {v : V} {vs : List (List Key × V)} {d : D} {ds : List (List Key × D)} : Rep K F v d → RepT K F vs ds → RepT K F ((k, v) :: vs) ((k, d) :: ds)
theorem RepT.mono {K : PySem.W.Frag} {F F' : Hp} (e : Ex F F') : ∀ {vs : List (List Key × V)} {ds : List (List Key × D)}, RepT K F vs ds → RepT K F' vs ds
  | _, _, .nil => .nil
  | _, _, .cons r t => .cons (r.mono e) (t.mono e)
mutual
/-- a value that is a key -/
inductive VKey (F : Hp) : V → NestedKey → Prop
  | non : VKey F .non .none
  | bl (b : Bool) : VKey F (.bl b) (.num (if b = true then 1 else 0))
  | int (i : Int) : VKey F (.int i) (.num i)
  | str (x : Str) : VKey F (.str x) (.text x)
  | tup {a : Addr} {vs : List V} {ks : List NestedKey} : Rd F a (.tup vs) → VKeys F vs ks → VKey F (.ref a) (.tup ks)
inductive VKeys (F : Hp) : List V → List NestedKey → Prop
  | nil : VKeys F [] []
  | cons {v : V} {vs : List V} {k : NestedKey} {ks : List NestedKey} : VKey F v k → VKeys F vs ks → VKeys F (v :: vs) (k :: ks)
end
mutual
theorem VKey.mono {F F' : Hp} (e : Ex F F') : ∀ {v : V} {k : NestedKey}, VKey F v k → VKey F' v k
  | _, _, .non => .non
  | _, _, .bl b => .bl b
  | _, _, .int i => .int i
  | _, _, .str x => .str x
  | _, _, .tup h r => .tup (rdUp h e) (VKeys.mono e r)
theorem VKeys.mono {F F' : Hp} (e : Ex F F') : ∀ {v : List V} {k : List NestedKey}, VKeys F v k → VKeys F' v k
  | _, _, .nil => .nil
  | _, _, .cons r t => .cons (VKey.mono e r) (VKeys.mono e t)
end
inductive RepN (K : PySem.W.Frag) (F : Hp) : List (NestedKey × Addr × V) → List (NestedKey × D) → Prop
  | nil : RepN K F [] []
  | cons {k : NestedKey} {a : Addr} {v : V} {vs : List (NestedKey × Addr × V)} {d : D} {ds : List (NestedKey × D)} : VKey F (.ref a) k → k.depth ≤ 8 → Rep K F v d → RepN K F vs ds → RepN K F ((k, a, v) :: vs) ((k, d) :: ds)
theorem RepN.mono {K : PySem.W.Frag} {F F' : Hp} (e : Ex F F') : ∀ {vs : List (NestedKey × Addr × V)} {ds : List (NestedKey × D)}, RepN K F vs ds → RepN K F' vs ds
  | _, _, .nil => .nil
  | _, _, .cons a b r t => .cons (a.mono e) b (r.mono e) (t.mono e)
mutual
def keyN : D → Option NestedKey
  | .non => some .none
  | .bl b => some (.num (if b = true then 1 else 0))
  | .int i => some (.num i)
  | .str x => some (.text x)
  | .tup ds => (keyNs ds).map .tup
  | _ => none
def keyNs : List D → Option (List NestedKey)
  | [] => some []
  | d :: ds => match keyN d, keyNs ds with | some k, some ks => some (k :: ks) | _, _ => none
end
def isTup : D → Bool
  | .tup _ => true
  | _ => false
/-- a tuple that is a key -/
def keyT (d : D) : Option NestedKey := if isTup d = true then (match keyN d with | some k => if k.depth ≤ 8 then some k else none | none => none) else none
/-- entries whose keys are told, too -/
inductive RepW (K : PySem.W.Frag) (F : Hp) : List (NestedKey × Addr × V) → List (D × D) → Prop
  | nil : RepW K F [] []
  | cons {k : NestedKey} {a : Addr} {v : V} {vs : List (NestedKey × Addr × V)} {kd d : D} {ds : List (D × D)} : Rep K F (.ref a) kd → keyT kd = some k → Rep K F v d → RepW K F vs ds → RepW K F ((k, a, v) :: vs) ((kd, d) :: ds)
theorem RepW.mono {K : PySem.W.Frag} {F F' : Hp} (e : Ex F F') : ∀ {vs : List (NestedKey × Addr × V)} {ds : List (D × D)}, RepW K F vs ds → RepW K F' vs ds
  | _, _, .nil => .nil
  | _, _, .cons a b r t => .cons (a.mono e) b (r.mono e) (t.mono e)
/-- at p stands a dict with these entries -/
def DictN (w : World) (p : Addr) (xs : List (NestedKey × Addr × V)) : Heap → Prop := fun h => xs.length ≤ sizeLine ∧ (p == sysModules) = false ∧
  ∃ ys : List (NestedKey × Addr × Value), Paired (fun (x : NestedKey × Addr × V) (y : NestedKey × Addr × Value) => x.1 = y.1 ∧ x.2.1 = y.2.1 ∧ RelV x.2.2 y.2.2) xs ys ∧
  ∃ (o : Obj) (es : Array DictEntry) (ep : Nat), h.get? p = some o ∧ o.ExactDict ∧ o.data = .dict es ep ∧ es.toList = ys.map (fun x => (⟨x.1.hash w, .ref x.2.1, x.2.2⟩ : DictEntry)) ∧ (ys.map (·.1)).Nodup
/-- fields of an object -/
inductive RepF (K : PySem.W.Frag) (F : Hp) : List (Str × V) → List (Str × D) → Prop
  | nil : RepF K F [] []
  | cons {k : Str} {v : V} {vs : List (Str × V)} {d : D} {ds : List (Str × D)} : Rep K F v d → RepF K F vs ds → RepF K F ((k, v) :: vs) ((k, d) :: ds)
theorem RepF.mono {K : PySem.W.Frag} {F F' : Hp} (e : Ex F F') : ∀ {vs : List (Str × V)} {ds : List (Str × D)}, RepF K F vs ds → RepF K F' vs ds
  | _, _, .nil => .nil
  | _, _, .cons r t => .cons (r.mono e) (t.mono e)
/-- the grounds: the world, the module's names -/
structure Gd where
  w : World
  mg : Str → Option Value
/-- at p stands an exception of a class, without attributes -/
def ExcAt (cls : Value) (p : Addr) : Heap → Prop := fun h => ∃ (oe : Obj) (vs : Array Value), h.get? p = some oe ∧ oe.cls = cls ∧ oe.dict = none ∧ oe.data = .fields vs
/-- what a cell holds -/
inductive CellC (w : Gd) (K : PySem.W.Frag) (F : Hp) (p : Addr) : HO → Cell → Prop
  | lst {xs : List V} {ds : List D} : RepL K F xs ds → CellC w K F p (.lst xs) (.lst ds)
  | dk {kvs : List (Key × V)} {es : List (Key × D)} : RepK K F kvs es → CellC w K F p (.dK kvs) (.dk es)
  | dn {xs : List (NestedKey × Addr × V)} {es : List (NestedKey × D)} : RepN K F xs es → CellC w K F p (.ext (DictN w.w p xs)) (.dn es)
  | dw {xs : List (NestedKey × Addr × V)} {es : List (D × D)} : RepW K F xs es → CellC w K F p (.ext (DictN w.w p xs)) (.dw none es)
  | dwl {o : Obj} {xs : List (NestedKey × Addr × V)} {es : List (D × D)} : RepW K F xs es → CellC w K F p (.frz o (.ext (DictN w.w p xs))) (.dw (some (o, xs)) es)
  | exc {nm : Str} {cls : Value} : w.mg nm = some cls → CellC w K F p (.ext (ExcAt cls p)) (.exc nm)
  | ob {nm : Str} {C dx : Addr} {fs : List (Str × V)} {es : List (Str × D)} : w.mg nm = some (.ref C) → RepF K F fs es → CellC w K F p (.ins C dx fs) (.ob nm es)
theorem CellC.mono {w : Gd} {K : PySem.W.Frag} {F F' : Hp} {p : Addr} (e : Ex F F') {o : HO} {c : Cell} : CellC w K F p o c → CellC w K F' p o c
  | .lst r => .lst (r.mono e)
  | .dk r => .dk (r.mono e)
  | .dn r => .dn (r.mono e)
  | .exc h => .exc h
  | .dw r => .dw (r.mono e)
  | .dwl r => .dwl (r.mono e)
  | .ob h r => .ob h (r.mono e)
/-- what was known, and kept aside, where the def, or the try, was entered -/
structure Bs where
  F0 : Hp
  R0 : Hp
  g : Gd
/-- the empty ground -/
def Bs.nil (w : Gd) : Bs := ⟨fun _ => none, fun _ => none, w⟩
/-- F: what is known for good; C: the cells; R: what is kept aside -/
structure Sat (B : Bs) (K : PySem.W.Frag) (F : Hp) (C : AH) (R H : Hp) : Prop where
  bF : Ex B.F0 F
  bR : Ex B.R0 R
  ex : Ex F H
  cell : ∀ p c, C p = some c → F p = none ∧ ∃ o, H p = some o ∧ CellC B.g K F p o c
  priv : ∀ p o, R p = some o → F p = none ∧ C p = none ∧ H p = some o
section
variable {B : Bs} {K : PySem.W.Frag} {F F' : Hp} {C : AH} {R H : Hp} {p : Addr}
theorem Sat.rebase {B' : Bs} (S : Sat B K F C R H) (hw : B'.g = B.g) (h1 : Ex B'.F0 F) (h2 : Ex B'.R0 R) : Sat B' K F C R H := ⟨h1, h2, S.ex, fun p c e => by rw [hw]; exact S.cell p c e, S.priv⟩
theorem Sat.nil (S : Sat B K F C R H) : Sat (Bs.nil B.g) K F C R H := S.rebase rfl (fun _ _ e => by cases e) (fun _ _ e => by cases e)
/-- back behind a call -/
theorem Sat.back {C0 : AH} {H0 : Hp} {F1 : Hp} {C1 : AH} {H1 : Hp} (S : Sat B K F C0 R H0) (e : Ex F F1) (S1 : Sat (Bs.nil B.g) K F1 C1 R H1) : Sat B K F1 C1 R H1 := S1.rebase rfl (S.bF.trans e) S.bR
theorem Sat.freeB (S : Sat B K F C R H) (h : R p = none) : B.R0 p = none := S.bR.back h
theorem Sat.freeF (S : Sat B K F C R H) (h : H p = none) : F p = none := S.ex.back h
theorem Sat.freeC (S : Sat B K F C R H) (h : H p = none) : C p = none := by
  cases q : C p with
  | none => rfl
  | some c => obtain ⟨_, o, e, _⟩ := S.cell p c q; rw [h] at e; cases e
theorem Sat.freeR (S : Sat B K F C R H) (h : H p = none) : R p = none := by
  cases q : R p with
  | none => rfl
  | some c => have e := (S.priv p c q).2.2; rw [h] at e; cases e
/-- a new object, known for good -/
theorem Sat.newF (S : Sat B K F C R H) (h : H p = none) (o : HO) : Sat B K (upd F p o) C R (upd H p o) := by
  have hF := S.freeF h
  refine ⟨S.bF.trans (Ex.new hF), S.bR, fun a u e => ?_, fun q c e => ?_, fun q u e => ?_⟩
  · by_cases ha : a = p
    · subst ha; rw [upd_same] at e ⊢; exact e
    · rw [upd_ne ha] at e ⊢; exact S.ex _ _ e
  · obtain ⟨h1, u, h2, h3⟩ := S.cell q c e
    have hq : q ≠ p := ne_of_none h2 h
    exact ⟨by rw [upd_ne hq]; exact h1, u, by rw [upd_ne hq]; exact h2, h3.mono (Ex.new hF)⟩
  · obtain ⟨h1, h2, h3⟩ := S.priv q u e
    have hq : q ≠ p := ne_of_none h3 h
    exact ⟨by rw [upd_ne hq]; exact h1, h2, by rw [upd_ne hq]; exact h3⟩
/-- a cell is made, or changed -/
theorem Sat.setC (S : Sat B K F C R H) (hF : F p = none) (hR : R p = none) {o : HO} {c : Cell} (h : CellC B.g K F p o c) : Sat B K F (put C p c) R (upd H p o) := by
  refine ⟨S.bF, S.bR, fun a u e => ?_, fun q d e => ?_, fun q u e => ?_⟩
  · rw [upd_ne (ne_of_none e hF)]; exact S.ex _ _ e
  · by_cases hq : q = p
    · subst hq; rw [put_same] at e; cases e; exact ⟨hF, o, upd_same, h⟩
    · rw [put_ne hq] at e
      obtain ⟨h1, u, h2, h3⟩ := S.cell q d e
      exact ⟨h1, u, by rw [upd_ne hq]; exact h2, h3⟩
  · have hq : q ≠ p := ne_of_none e hR
    obtain ⟨h1, h2, h3⟩ := S.priv q u e
    exact ⟨h1, by rw [put_ne hq]; exact h2, by rw [upd_ne hq]; exact h3⟩
theorem Sat.newC (S : Sat B K F C R H) (h : H p = none) {o : HO} {c : Cell} (hc : CellC B.g K F p o c) : Sat B K F (put C p c) R (upd H p o) := S.setC (S.freeF h) (S.freeR h) hc
theorem Sat.mutC (S : Sat B K F C R H) {c0 : Cell} (h : C p = some c0) {o : HO} {c : Cell} (hc : CellC B.g K F p o c) : Sat B K F (put C p c) R (upd H p o) := by
  refine S.setC (S.cell p c0 h).1 ?_ hc
  cases q : R p with
  | none => rfl
  | some u => have e := (S.priv p u q).2.1; rw [h] at e; cases e
/-- kept aside -/
theorem Sat.setR (S : Sat B K F C R H) (hF : F p = none) (hC : C p = none) (hB : B.R0 p = none) (o : HO) : Sat B K F C (upd R p o) (upd H p o) := by
  refine ⟨S.bF, fun q u e => by rw [upd_ne (ne_of_none e hB)]; exact S.bR q u e, fun a u e => ?_, fun q d e => ?_, fun q u e => ?_⟩
  · rw [upd_ne (ne_of_none e hF)]; exact S.ex _ _ e
  · have hq : q ≠ p := fun z => by rw [z, hC] at e; cases e
    obtain ⟨h1, u, h2, h3⟩ := S.cell q d e
    exact ⟨h1, u, by rw [upd_ne hq]; exact h2, h3⟩
  · by_cases hq : q = p
    · subst hq; rw [upd_same] at e; cases e; exact ⟨hF, hC, upd_same⟩
    · rw [upd_ne hq] at e
      obtain ⟨h1, h2, h3⟩ := S.priv q u e
      exact ⟨h1, h2, by rw [upd_ne hq]; exact h3⟩
/-- what was kept aside is known for good, is a cell -/
theorem Sat.outF (S : Sat B K F C (upd R p o) H) (hR : R p = none) (hB : B.R0 p = none) : Sat B K (upd F p o) C R H := by
  obtain ⟨f, c, h⟩ := S.priv p o upd_same
  refine ⟨S.bF.trans (Ex.new f), fun q u e => by have := S.bR q u e; rwa [upd_ne (ne_of_none e hB)] at this, fun a u e => ?_, fun q d e => ?_, fun q u e => ?_⟩
  · by_cases ha : a = p
    · subst ha; rw [upd_same] at e; cases e; exact h
    · rw [upd_ne ha] at e; exact S.ex _ _ e
  · have hq : q ≠ p := fun z => by rw [z, c] at e; cases e
    obtain ⟨h1, u, h2, h3⟩ := S.cell q d e
    exact ⟨by rw [upd_ne hq]; exact h1, u, h2, h3.mono (Ex.new f)⟩
  · have hq : q ≠ p := ne_of_none e hR
    obtain ⟨h1, h2, h3⟩ := S.priv q u (by rw [upd_ne hq]; exact e)
    exact ⟨by rw [upd_ne hq]; exact h1, h2, h3⟩
theorem Sat.outC {o : HO} {c : Cell} (S : Sat B K F C (upd R p o) H) (hR : R p = none) (hB : B.R0 p = none) (hc : CellC B.g K F p o c) : Sat B K F (put C p c) R H := by
  obtain ⟨f, c0, h⟩ := S.priv p o upd_same
  refine ⟨S.bF, fun q u e => by have := S.bR q u e; rwa [upd_ne (ne_of_none e hB)] at this, S.ex, fun q d e => ?_, fun q u e => ?_⟩
  · by_cases hq : q = p
    · subst hq; rw [put_same] at e; cases e; exact ⟨f, o, h, hc⟩
    · rw [put_ne hq] at e; exact S.cell q d e
  · have hq : q ≠ p := ne_of_none e hR
    obtain ⟨h1, h2, h3⟩ := S.priv q u (by rw [upd_ne hq]; exact e)
    exact ⟨h1, by rw [put_ne hq]; exact h2, h3⟩
/-- a cell is changed no more -/
theorem Sat.freeze {o : HO} {c : Cell} (S : Sat B K F C R H) (h : C p = some c) (hH : H p = some o) : Sat B K (upd F p o) (del C p) R H := by
  obtain ⟨f, _, _⟩ := S.cell p c h
  refine ⟨S.bF.trans (Ex.new f), S.bR, fun a u e => ?_, fun q d e => ?_, fun q u e => ?_⟩
  · by_cases ha : a = p
    · subst ha; rw [upd_same] at e; cases e; exact hH
    · rw [upd_ne ha] at e; exact S.ex _ _ e
  · by_cases hq : q = p
    · subst hq; unfold del at e; rw [if_pos rfl] at e; cases e
    · unfold del at e; rw [if_neg hq] at e
      obtain ⟨h1, u, h2, h3⟩ := S.cell q d e
      exact ⟨by rw [upd_ne hq]; exact h1, u, h2, h3.mono (Ex.new f)⟩
  · obtain ⟨h1, h2, h3⟩ := S.priv q u e
    have hq : q ≠ p := fun z => by rw [z, h] at h2; cases h2
    refine ⟨by rw [upd_ne hq]; exact h1, ?_, h3⟩
    unfold del; rw [if_neg hq]; exact h2
end
abbrev ASt := List (Option D)
structure Slo (K : PySem.W.Frag) (F : Hp) (s : ASt) (σ : St) : Prop where
  len : s.length = σ.length
  at' : ∀ (i : Nat) (d : D), s[i]? = some (some d) → ∃ v, σ[i]? = some (some v) ∧ Rep K F v d
section
variable {K : PySem.W.Frag} {F F' : Hp} {s : ASt} {σ : St}
theorem Slo.mono (r : Slo K F s σ) (e : Ex F F') : Slo K F' s σ := ⟨r.len, fun i d h => let ⟨v, a, b⟩ := r.at' i d h; ⟨v, a, b.mono e⟩⟩
theorem Slo.set (r : Slo K F s σ) {v : V} {d : D} (h : Rep K F v d) (i : Nat) : Slo K F (s.set i (some d)) (σ.set i (some v)) := by
  refine ⟨by rw [List.length_set, List.length_set, r.len], fun j e q => ?_⟩
  by_cases hj : i = j
  · subst hj
    by_cases hi : i < s.length
    · rw [List.getElem?_set_self hi] at q
      cases q
      exact ⟨v, List.getElem?_set_self (by rw [← r.len]; exact hi), h⟩
    · rw [List.getElem?_eq_none (by simpa using hi)] at q; cases q
  · rw [List.getElem?_set_ne hj] at q ⊢
    exact r.at' j e q
theorem Slo.forget (r : Slo K F s σ) (i : Nat) : Slo K F (s.set i none) (σ.set i none) := by
  refine ⟨by rw [List.length_set, List.length_set, r.len], fun j e q => ?_⟩
  by_cases hj : i = j
  · subst hj
    by_cases hi : i < s.length
    · rw [List.getElem?_set_self hi] at q; cases q
    · rw [List.getElem?_eq_none (by simpa using hi)] at q; cases q
  · rw [List.getElem?_set_ne hj] at q ⊢
    exact r.at' j e q
/-- only the abstract slot changes -/
theorem Slo.reset (r : Slo K F s σ) {i : Nat} {d0 d : D} (h0 : s[i]? = some (some d0)) (h : ∀ v, Rep K F v d0 → Rep K F v d) : Slo K F (s.set i (some d)) σ := by
  refine ⟨by rw [List.length_set, r.len], fun j e q => ?_⟩
  by_cases hj : i = j
  · subst hj
    have hi : i < s.length := (List.getElem?_eq_some_iff.mp h0).1
    rw [List.getElem?_set_self hi] at q
    cases q
    obtain ⟨v, h1, h2⟩ := r.at' i d0 h0
    exact ⟨v, h1, h v h2⟩
  · rw [List.getElem?_set_ne hj] at q
    exact r.at' j e q
def wipeA (s : ASt) : List Nat → ASt
  | [] => s
  | v :: vs => (wipeA s vs).set v none
theorem Slo.wipe (r : Slo K F s σ) : ∀ vs : List Nat, Slo K F (wipeA s vs) (L2.wipe σ vs)
  | [] => r
  | v :: vs => (Slo.wipe r vs).forget v
theorem Slo.start {vs : List V} {ds : List D} (h : RepL K F vs ds) (n : Nat) : Slo K F (ds.map some ++ List.replicate (n - ds.length) none) (vs.map some ++ List.replicate (n - vs.length) none) := by
  have e := h.length
  refine ⟨by simp [e], fun i d q => ?_⟩
  by_cases hi : i < ds.length
  · rw [List.getElem?_append_left (by simpa using hi), List.getElem?_map] at q
    rw [List.getElem?_append_left (by simpa [e] using hi), List.getElem?_map]
    cases z : ds[i]? with
    | none => rw [z] at q; cases q
    | some d' =>
      rw [z] at q
      cases q
      obtain ⟨v, h1, h2⟩ := h.getD z
      exact ⟨v, by rw [h1]; rfl, h2⟩
  · rw [List.getElem?_append_right (by simpa using hi), List.getElem?_replicate] at q
    split at q <;> cases q
end
end AL
namespace AL
open PySem PySem.Spec PyProof.Rows L2
def NewT (xs : List V) (Q : VK) (H : Hp) : Prop := ∀ (p : Addr) (ob : Obj), ob.dict = none → H p = none → Q (.ref p) (upd H p (.frz ob (.tup xs)))
section
variable {X : Cx} {pins : List (Addr × Obj)} {σ : L2.St} {H : Hp} {s : Shared}
theorem laidT {xs : List V} {its : List Value} {Q : VK} {h' : Heap} {tk : Nat} (I : Inv X pins σ H { s with heap := h' }) (hz : xs.length ≤ sizeLine) (r : L2.Vals xs its) (q : NewT xs Q H) :
    EP X pins σ Q (.ref h'.objs.size) { s with heap := h'.push { cls := .type "tuple", data := .seq its.toArray } } := by
  refine ⟨.ref h'.objs.size, upd H h'.objs.size (.frz { cls := .type "tuple", data := .seq its.toArray } (.tup xs)), I.laid (t' := s.toks) (fun b u e => Heap.get?_push_of_some _ e) (Nat.le_refl _) ?_, rfl, q _ _ rfl (I.hok.fresh (Nat.le_refl _))⟩
  exact ⟨Heap.get?_push_size _ rfl, hz, its, r, ⟨_, Heap.get?_push_size _ rfl, rfl, _, rfl⟩⟩
end
def tTupN (t : TA) : TE := fun σ H Q => t σ H fun xs H1 => xs.length ≤ sizeLine ∧ NewT xs Q H1
section
variable {X : Cx} {es : List Expr} {t : TA} {pos : Pos}
theorem pe_tupN {x1} (h : PA X es t) : PE X (.Tuple es x1 pos) (tTupN t) := by
  refine ⟨fun pins s σ H Q I hq => ?_⟩
  refine wpAny_Tuple_spliced (thn (h.run pos pins s σ H _ I hq) fun us s1 ⟨xs, H1, I1, r, z, q⟩ => ⟨by rw [← r.length]; exact z, ?_⟩)
  exact laidT (tk := s1.toks) I1 z r q
def rCatTN (K : PySem.W.Frag) : R2 := fun x y H Q => ∃ a b xs ys, x = .ref a ∧ y = .ref b ∧ SqT K H a xs ∧ SqT K H b ys ∧ xs.length + ys.length ≤ sizeLine ∧
  (xs = [] → Q (.ref b) H) ∧ (xs ≠ [] → ys = [] → Q (.ref a) H) ∧ (xs ≠ [] → ys ≠ [] → NewT (xs ++ ys) Q H)
theorem op_catTN : OpR X (binaryOp .Add) (rCatTN X.K) := by
  intro pins s σ H x y v u Q I rx ry h
  obtain ⟨a, b, xs, ys, rfl, rfl, ha, hb, hz, q0, q1, q2⟩ := h
  by_cases hx : xs = []
  · exact op_catA pins s σ H _ _ v u Q I rx ry ⟨a, b, xs, ys, rfl, rfl, ha, hb, hz, q0, q1, fun h => absurd hx h⟩
  by_cases hy : ys = []
  · exact op_catA pins s σ H _ _ v u Q I rx ry ⟨a, b, xs, ys, rfl, rfl, ha, hb, hz, q0, q1, fun _ h => absurd hy h⟩
  cases rx
  cases ry
  obtain ⟨its, r1, p1, _⟩ := I.tuple ha
  obtain ⟨its2, r2, p2, _⟩ := I.tuple hb
  refine HT.cat_tup p1 p2 (fun z => hx (r1.nil_iff.mp z)) (fun z => absurd (r2.nil_iff.mp z) hy) (fun z => ?_) (by rw [← r1.length, ← r2.length]; exact hz)
  exact laidT (tk := s.toks) I (by rw [List.length_append]; exact hz) (r1.append r2) (q2 hx hy)
def rSlTN (K : PySem.W.Frag) : V → Option Int → Option Int → Hp → VK → Prop := fun x lo hi H Q => ∃ a xs, x = .ref a ∧ SqT K H a xs ∧
  (HT.sIx xs.length 0 lo = 0 ∧ HT.sIx xs.length xs.length hi = xs.length → Q (.ref a) H) ∧ (¬ (HT.sIx xs.length 0 lo = 0 ∧ HT.sIx xs.length xs.length hi = xs.length) → NewT (cutV xs lo hi) Q H)
theorem sl_tupN : SlR X (rSlTN X.K) := by
  intro pins s σ H x v vl vu lo hi sl Q I rx hs pl pu h
  obtain ⟨a, xs, rfl, hx, q1, q2⟩ := h
  by_cases hw : HT.sIx xs.length 0 lo = 0 ∧ HT.sIx xs.length xs.length hi = xs.length
  · exact sl_tupA pins s σ H _ v vl vu lo hi sl Q I rx hs pl pu ⟨a, xs, rfl, hx, q1, fun h => absurd hw h⟩
  · cases rx
    obtain ⟨its, r, ht, hz⟩ := I.tuple hx
    have hlen : its.toArray.size = xs.length := by rw [List.size_toArray]; exact r.length.symm
    refine ⟨"tuple", _, PyProof.Rows.slot_tuple_getitem.lookup, ht.typeIs, ?_⟩
    refine HT.getItem_tuple_cut ht hs pl pu (by rw [hlen]; exact hw) ?_ (by rw [hlen]; exact hz)
    rw [hlen]
    exact laidT (tk := s.toks) I (Nat.le_trans (cutV_length xs lo hi) hz) ((r.drop (HT.sIx xs.length 0 lo)).take (HT.sIx xs.length xs.length hi - HT.sIx xs.length 0 lo)) (q2 hw)
def rTupOfN (K : PySem.W.Frag) : List V → Hp → VK → Prop := fun xs H Q => ∃ p ys, xs = [.ref p] ∧ ((SqL K H p ys ∧ NewT ys Q H) ∨ (SqT K H p ys ∧ Q (.ref p) H))
theorem call_tuple_ofN : CallR X (.type "tuple") (rTupOfN X.K) := by
  intro pins s σ H xs us Q I r h
  obtain ⟨p, ys, rfl, h⟩ := h
  rcases h with ⟨hq, q⟩ | h
  · obtain ⟨u, rfl, rx⟩ := vals1 r
    cases rx
    obtain ⟨its, r', pl, hz⟩ := I.list hq
    have hlen := r'.length
    refine call_tuple_list pl.isList (fun h' kp => ?_) (by simp only [List.size_toArray] <;> omega)
    have I1 : Inv X pins σ H { s with heap := h' } := I.kept (t' := s.toks) kp
    exact laidT (tk := s.toks) I1 hz r' q
  · exact call_tuple_of pins s σ H _ us Q I r ⟨p, ys, rfl, .inr h⟩
end
end AL
namespace AL
open PySem PySem.Spec L2
variable {B : Bs}
abbrev AE' := ASt → AH → (D → AH → Prop) → Prop
abbrev AT' := ASt → AH → (Bool → AH → Prop) → Prop
abbrev AA' := ASt → AH → (List D → AH → Prop) → Prop
structure AEnds where
  nx : ASt → AH → Prop
  rt : D → AH → Prop
  bk : ASt → AH → Prop := fun _ _ => False
  ct : ASt → AH → Prop := fun _ _ => False
abbrev AS' := AEnds → ASt → AH → Prop
abbrev AG' := D → ASt → AH → (ASt → AH → Prop) → Prop
/-- what is walked: the items, what must stay so, the cells -/
abbrev AI' := ASt → AH → (List D → (AH → Prop) → AH → Prop) → Prop
abbrev ASp := List D → AH → (D → AH → Prop) → Prop
section
variable (B : Bs) (K : PySem.W.Frag)
def SimE (te : TE) (a : AE') : Prop := ∀ (σ : L2.St) (s : ASt) (F : Hp) (C : AH) (R H : Hp) (Q : VK) (P : D → AH → Prop), Slo K F s σ → Sat B K F C R H → a s C P →
  (∀ d v F' C' H', Ex F F' → Sat B K F' C' R H' → Rep K F' v d → P d C' → Q v H') → te σ H Q
def SimT (tt : TT) (a : AT') : Prop := ∀ (σ : L2.St) (s : ASt) (F : Hp) (C : AH) (R H : Hp) (Q : Bool → Hp → Prop) (P : Bool → AH → Prop), Slo K F s σ → Sat B K F C R H → a s C P →
  (∀ b F' C' H', Ex F F' → Sat B K F' C' R H' → P b C' → Q b H') → tt σ H Q
def SimA (n : Nat) (ta : TA) (a : AA') : Prop := ∀ (σ : L2.St) (s : ASt) (F : Hp) (C : AH) (R H : Hp) (Q : List V → Hp → Prop) (P : List D → AH → Prop), Slo K F s σ → Sat B K F C R H → a s C P →
  (∀ ds vs F' C' H', Ex F F' → Sat B K F' C' R H' → RepL K F' vs ds → ds.length = n → P ds C' → Q vs H') → ta σ H Q
structure EndsR (F R : Hp) (E : AEnds) (D' : Ends) : Prop where
  nx : ∀ s σ F' C' H', Ex F F' → Slo K F' s σ → Sat B K F' C' R H' → E.nx s C' → D'.nx σ H'
  rt : ∀ d v F' C' H', Ex F F' → Rep K F' v d → Sat B K F' C' R H' → E.rt d C' → D'.rt v H'
  bk : ∀ s σ F' C' H', Ex F F' → Slo K F' s σ → Sat B K F' C' R H' → E.bk s C' → D'.bk σ H'
  ct : ∀ s σ F' C' H', Ex F F' → Slo K F' s σ → Sat B K F' C' R H' → E.ct s C' → D'.ct σ H'
def SimS (ts : TS) (a : AS') : Prop := ∀ (D' : Ends) (E : AEnds) (σ : L2.St) (s : ASt) (F : Hp) (C : AH) (R H : Hp), EndsR B K F R E D' → Slo K F s σ → Sat B K F C R H → a E s C → ts D' σ H
def SimG (g : TG) (a : AG') : Prop := ∀ (v : V) (d : D) (σ : L2.St) (s : ASt) (F : Hp) (C : AH) (R H : Hp) (Q : L2.St → Hp → Prop) (P : ASt → AH → Prop), Slo K F s σ → Sat B K F C R H → Rep K F v d → a d s C P →
  (∀ s' σ' F' C' H', Ex F F' → Slo K F' s' σ' → Sat B K F' C' R H' → P s' C' → Q σ' H') → g v σ H Q
/-- an iterator walks the items -/
structure Walks (F : Hp) (items : List D) (hold : AH → Prop) (J : It) : Prop where
  stop : ∀ F' C' R' H', Ex F F' → Sat B K F' C' R' H' → hold C' → J.stop items.length H'
  go : ∀ F' C' R' H' i, Ex F F' → Sat B K F' C' R' H' → hold C' → i < items.length → J.go i H'
  yld : ∀ F' C' R' H' i x H'', Ex F F' → Sat B K F' C' R' H' → hold C' → i < items.length → J.yld i H' x H'' → ∃ d F'', items[i]? = some d ∧ Ex F' F'' ∧ Sat B K F'' C' R' H'' ∧ Rep K F'' x d
def SimI (wi : TI) (a : AI') : Prop := ∀ (σ : L2.St) (s : ASt) (F : Hp) (C : AH) (R H : Hp) (Q : It → Hp → Prop) (P : List D → (AH → Prop) → AH → Prop), Slo K F s σ → Sat B K F C R H → a s C P →
  (∀ items hold J F' C' H', Ex F F' → Sat B K F' C' R H' → Walks B K F' items hold J → P items hold C' → Q J H') → wi σ H Q
def SimR2 (r : R2) (a : D → D → AH → (D → AH → Prop) → Prop) : Prop := ∀ (v w : V) (d e : D) (F : Hp) (C : AH) (R H : Hp) (Q : VK) (P : D → AH → Prop), Sat B K F C R H → Rep K F v d → Rep K F w e → a d e C P →
  (∀ d v F' C' H', Ex F F' → Sat B K F' C' R H' → Rep K F' v d → P d C' → Q v H') → r v w H Q
def SimR1 (r : V → Hp → VK → Prop) (a : D → AH → (D → AH → Prop) → Prop) : Prop := ∀ (v : V) (d : D) (F : Hp) (C : AH) (R H : Hp) (Q : VK) (P : D → AH → Prop), Sat B K F C R H → Rep K F v d → a d C P →
  (∀ d v F' C' H', Ex F F' → Sat B K F' C' R H' → Rep K F' v d → P d C' → Q v H') → r v H Q
def SimRL (r : List V → Hp → VK → Prop) (a : ASp) : Prop := ∀ (vs : List V) (ds : List D) (F : Hp) (C : AH) (R H : Hp) (Q : VK) (P : D → AH → Prop), Sat B K F C R H → RepL K F vs ds → a ds C P →
  (∀ d v F' C' H', Ex F F' → Sat B K F' C' R H' → Rep K F' v d → P d C' → Q v H') → r vs H Q
def SimRM (r : V → List V → Hp → VK → Prop) (a : D → ASp) : Prop := ∀ (v : V) (d : D) (vs : List V) (ds : List D) (F : Hp) (C : AH) (R H : Hp) (Q : VK) (P : D → AH → Prop), Sat B K F C R H → Rep K F v d → RepL K F vs ds → a d ds C P →
  (∀ d v F' C' H', Ex F F' → Sat B K F' C' R H' → Rep K F' v d → P d C' → Q v H') → r v vs H Q
end
structure AE (B : Bs) (X : Cx) (e : Expr) (te : TE) (a : AE') : Prop where
  pe : PE X e te
  sim : SimE B X.K te a
structure AT (B : Bs) (X : Cx) (e : Expr) (tt : TT) (a : AT') : Prop where
  pt : PT X e tt
  sim : SimT B X.K tt a
structure AW (B : Bs) (X : Cx) (e : Expr) (tt : TT) (a : AT') : Prop where
  pw : PW X e tt
  sim : SimT B X.K tt a
structure ATs (B : Bs) (X : Cx) (es : List Expr) (tt : TT) (a : AT') : Prop where
  pts : PTs X es tt
  sim : SimT B X.K tt a
structure AA (B : Bs) (X : Cx) (es : List Expr) (n : Nat) (ta : TA) (a : AA') : Prop where
  pa : PA X es ta
  sim : SimA B X.K n ta a
structure AS (B : Bs) (X : Cx) (st : Stmt) (ts : TS) (a : AS') : Prop where
  ps : PS X st ts
  sim : SimS B X.K ts a
structure ASs (B : Bs) (X : Cx) (st : List Stmt) (ts : TS) (a : AS') : Prop where
  ps : PSs X st ts
  sim : SimS B X.K ts a
/-- a target stores to the slots vs alone -/
def GIn (vs : List Nat) (g : TG) : Prop := ∀ x σ H (Q Q' : L2.St → Hp → Prop), g x σ H Q → (∀ σ2 H2, L2.wipe σ2 vs = L2.wipe σ vs → Q σ2 H2 → Q' σ2 H2) → g x σ H Q'
structure AG (B : Bs) (X : Cx) (e : Expr) (vs : List Nat) (g : TG) (a : AG') : Prop where
  pg : PG X e g
  sim : SimG B X.K g a
  inn : GIn vs g
structure AI (B : Bs) (X : Cx) (tg e : Expr) (wi : TI) (a : AI') : Prop where
  pi : PI X tg e wi
  sim : SimI B X.K wi a
def aVar (i : Nat) : AE' := fun s C P => match s[i]? with | some (some d) => P d C | _ => False
def aC (d : D) : AE' := fun _ C P => P d C
section
variable {X : Cx} {pos : Pos} {K : PySem.W.Frag}
theorem sim_var (i : Nat) : SimE B K (tVar i) (aVar i) := by
  intro σ s F C R H Q P hs hS h k
  unfold aVar at h
  split at h
  · rename_i d e
    obtain ⟨v, h1, h2⟩ := hs.at' i d e
    exact ⟨v, h1, k d v F C H (Ex.refl F) hS h2 h⟩
  · exact h.elim
theorem ae_v (i : Nat) {x : Str} (hN : X.N[i]? = some x := by rfl) (hv : Vis X.env.scope x := by first | exact Or.inl rfl | exact Or.inr (Or.inl rfl) | exact Or.inr (Or.inr rfl)) (hd : (x == ("__debug__" : Str)) = false := by decide)
    (hcd : (x == ("__classdict__" : Str)) = false := by decide) : AE B X (.Name x pos) (tVar i) (aVar i) := ⟨pe_var hN hv hd hcd, sim_var i⟩
theorem sim_c {v : V} {d : D} (h : ∀ F, Rep K F v d) : SimE B K (tC v) (aC d) := fun σ s F C R H Q P hs hS a k => k d v F C H (Ex.refl F) hS (h F) a
theorem ae_int {i j} : AE B X (.Constant (.int i) j pos) (tC (.int i)) (aC (.int i)) := ⟨pe_int, sim_c fun _ => .int i⟩
theorem ae_bl {b j} : AE B X (.Constant (.bool b) j pos) (tC (.bl b)) (aC (.bl b)) := ⟨pe_bl, sim_c fun _ => .bl b⟩
theorem ae_non {j} : AE B X (.Constant .none j pos) (tC .non) (aC .non) := ⟨pe_non, sim_c fun _ => .non⟩
theorem ae_str {x j} : AE B X (.Constant (.str x) j pos) (tC (.str x)) (aC (.str x)) := ⟨pe_str, sim_c fun _ => .str x⟩
theorem ae_gint {x : Str} {i : Int} (h : ∃ u, X.mg x = some u ∧ RelV (.int i) u) (hg : Gl X x := by rfl) (hd : (x == ("__debug__" : Str)) = false := by decide) : AE B X (.Name x pos) (tC (.int i)) (aC (.int i)) :=
  let ⟨_, h1, h2⟩ := h
  ⟨pe_glob hg h1 h2 hd, sim_c fun _ => .int i⟩
def aOp (r : D → D → AH → (D → AH → Prop) → Prop) (a b : AE') : AE' := fun s C P => a s C fun x C1 => b s C1 fun y C2 => r x y C2 P
def aUn (r : D → AH → (D → AH → Prop) → Prop) (a : AE') : AE' := fun s C P => a s C fun x C1 => r x C1 P
theorem sim_op {r : R2} {ar} {ta tb : TE} {a b : AE'} (hr : SimR2 B K r ar) (ha : SimE B K ta a) (hb : SimE B K tb b) : SimE B K (tOp r ta tb) (aOp ar a b) := by
  intro σ s F C R H Q P hs hS h k
  refine ha σ s F C R H _ _ hs hS h fun x v F1 C1 H1 e1 S1 r1 h1 => ?_
  refine hb σ s F1 C1 R H1 _ _ (hs.mono e1) S1 h1 fun y w F2 C2 H2 e2 S2 r2 h2 => ?_
  exact hr v w x y F2 C2 R H2 Q P S2 (r1.mono e2) r2 h2 fun d u F3 C3 H3 e3 S3 r3 h3 => k d u F3 C3 H3 ((e1.trans e2).trans e3) S3 r3 h3
theorem sim_un {r : V → Hp → VK → Prop} {ar} {ta : TE} {a : AE'} (hr : SimR1 B K r ar) (ha : SimE B K ta a) : SimE B K (tUn r ta) (aUn ar a) := by
  intro σ s F C R H Q P hs hS h k
  refine ha σ s F C R H _ _ hs hS h fun x v F1 C1 H1 e1 S1 r1 h1 => ?_
  exact hr v x F1 C1 R H1 Q P S1 r1 h1 fun d u F3 C3 H3 e3 S3 r3 h3 => k d u F3 C3 H3 (e1.trans e3) S3 r3 h3
/-- an operation f by values -/
structure AOp (B : Bs) (X : Cx) (f : Value → Value → Sem Value) (r : R2) (a : D → D → AH → (D → AH → Prop) → Prop) : Prop where
  op : OpR X f r
  sim : SimR2 B X.K r a
theorem ae_op {o : Operator} {r ar} {a b : Expr} {ta tb : TE} {aa ab : AE'} (ho : AOp B X (binaryOp o) r ar) (ha : AE B X a ta aa) (hb : AE B X b tb ab) : AE B X (.BinOp a o b pos) (tOp r ta tb) (aOp ar aa ab) := ⟨pe_op ho.op ha.pe hb.pe, sim_op ho.sim ha.sim hb.sim⟩
theorem ae_cmp {o : CmpOp} {r ar} {a b : Expr} {ta tb : TE} {aa ab : AE'} (ho : AOp B X (compareOp o) r ar) (ha : AE B X a ta aa) (hb : AE B X b tb ab) (hm : behindInMarks o b = false := by first | exact nomark _ | with_unfolding_all rfl) : AE B X (.Compare a [o] [b] pos) (tOp r ta tb) (aOp ar aa ab) :=
  ⟨pe_cmpR ho.op ha.pe hb.pe hm, sim_op ho.sim ha.sim hb.sim⟩
theorem SimR2.or {r r' : R2} {ar ar'} (h : SimR2 B K r ar) (h' : SimR2 B K r' ar') : SimR2 B K (fun x y H Q => r x y H Q ∨ r' x y H Q) (fun x y C P => ar x y C P ∨ ar' x y C P) := by
  intro v w d e F C R H Q P hS r1 r2 h0 k
  rcases h0 with q | q
  · exact .inl (h v w d e F C R H Q P hS r1 r2 q k)
  · exact .inr (h' v w d e F C R H Q P hS r1 r2 q k)
theorem SimR2.imp {r : R2} {ar ar' : D → D → AH → (D → AH → Prop) → Prop} (h : SimR2 B K r ar) (i : ∀ d e C P, ar' d e C P → ar d e C P) : SimR2 B K r ar' := fun v w d e F C R H Q P hS r1 r2 h0 k => h v w d e F C R H Q P hS r1 r2 (i d e C P h0) k
/-- ints in, a flat value out -/
def aI (c : Int → Int → Prop) (g : Int → Int → D) : D → D → AH → (D → AH → Prop) → Prop := fun x y C P => match x, y with
  | .int i, .int j => c i j ∧ P (g i j) C
  | _, _ => False
theorem simI {c : Int → Int → Prop} {g : Int → Int → V} {g' : Int → Int → D} (hg : ∀ F i j, Rep K F (g i j) (g' i j)) : SimR2 B K (rI c g) (aI c g') := by
  intro v w d e F C R H Q P hS r1 r2 h k
  unfold aI at h
  split at h
  · cases r1; cases r2
    exact ⟨_, _, rfl, rfl, h.1, k _ _ F C H (Ex.refl F) hS (hg F _ _) h.2⟩
  · exact h.elim
def aI0 (g : Int → Int → D) : D → D → AH → (D → AH → Prop) → Prop := fun x y C P => match x, y with
  | .int i, .int j => P (g i j) C
  | _, _ => False
theorem simI0 {g : Int → Int → V} {g' : Int → Int → D} (hg : ∀ F i j, Rep K F (g i j) (g' i j)) : SimR2 B K (rI0 g) (aI0 g') := by
  intro v w d e F C R H Q P hS r1 r2 h k
  unfold aI0 at h
  split at h
  · cases r1; cases r2
    exact ⟨_, _, rfl, rfl, k _ _ F C H (Ex.refl F) hS (hg F _ _) h⟩
  · exact h.elim
def aSub := aI0 fun i j => .int (i - j)
def aMul := aI CMul fun i j => .int (i * j)
def aDiv := aI CDiv fun i j => .int (i / j)
def aMod := aI (fun _ j => 0 < j) fun i j => .int (i % j)
def aLt := aI0 fun i j => .bl (decide (i < j))
def aLe := aI0 fun i j => .bl (decide (i ≤ j))
def aGt := aI0 fun i j => .bl (decide (j < i))
def aGe := aI0 fun i j => .bl (decide (j ≤ i))
def aPow := aI CPow fun i j => .int (i ^ j.toNat)
theorem ao_sub : AOp B X (binaryOp .Sub) (rI0 fun i j => .int (i - j)) aSub := ⟨op_sub, simI0 fun _ _ _ => .int _⟩
theorem ao_mul : AOp B X (binaryOp .Mult) (rI CMul fun i j => .int (i * j)) aMul := ⟨op_mul, simI fun _ _ _ => .int _⟩
theorem ao_div : AOp B X (binaryOp .FloorDiv) (rI CDiv fun i j => .int (i / j)) aDiv := ⟨op_fdiv, simI fun _ _ _ => .int _⟩
theorem ao_mod : AOp B X (binaryOp .Mod) (rI (fun _ j => 0 < j) fun i j => .int (i % j)) aMod := ⟨op_mod, simI fun _ _ _ => .int _⟩
theorem ao_pow : AOp B X (binaryOp .Pow) (rI CPow fun i j => .int (i ^ j.toNat)) aPow := ⟨op_pow, simI fun _ _ _ => .int _⟩
theorem ao_lt : AOp B X (compareOp .Lt) (rI0 fun i j => .bl (decide (i < j))) aLt := ⟨op_lt, simI0 fun _ _ _ => .bl _⟩
theorem ao_le : AOp B X (compareOp .LtE) (rI0 fun i j => .bl (decide (i ≤ j))) aLe := ⟨op_le, simI0 fun _ _ _ => .bl _⟩
theorem ao_gt : AOp B X (compareOp .Gt) (rI0 fun i j => .bl (decide (j < i))) aGt := ⟨op_gt, simI0 fun _ _ _ => .bl _⟩
theorem ao_ge : AOp B X (compareOp .GtE) (rI0 fun i j => .bl (decide (j ≤ i))) aGe := ⟨op_ge, simI0 fun _ _ _ => .bl _⟩
def asL (C : AH) : D → Option (List D)
  | .lst ds => some ds
  | .ce p => match C p with | some (.lst ds) => some ds | _ => none
  | _ => none
def asLr (C : AH) : D → Option (List D)
  | .scr ns => some (ns.map D.int)
  | d => asL C d
def asT : D → Option (List D)
  | .tup ds => some ds
  | _ => none
section
variable {F : Hp} {C : AH} {R H : Hp} {v : V} {d : D} {ds : List D}
theorem asL_ok (hS : Sat B K F C R H) (r : Rep K F v d) (h : asL C d = some ds) : ∃ a xs, v = .ref a ∧ H a = some (.lst xs) ∧ RepL K F xs ds := by
  cases r with
  | lst e q => cases h; exact ⟨_, _, rfl, hS.ex _ _ e, q⟩
  | ce p =>
    simp only [asL] at h
    split at h
    · rename_i e
      cases h
      obtain ⟨_, o, h1, h2⟩ := hS.cell p _ e
      cases h2 with
      | lst q => exact ⟨p, _, rfl, h1, q⟩
    · cases h
  | _ => cases h
theorem asLr_ok (hS : Sat B K F C R H) (r : Rep K F v d) (h : asLr C d = some ds) : ∃ a xs, v = .ref a ∧ SqL K H a xs ∧ RepL K F xs ds := by
  cases d with
  | scr ns =>
    cases r with
    | scr e => cases h; exact ⟨_, _, rfl, hS.ex.l e, .ints ns⟩
  | _ =>
    obtain ⟨a, xs, h1, h2, h3⟩ := asL_ok hS r (show asL C _ = some ds from h)
    exact ⟨a, xs, h1, SqL.of h2, h3⟩
theorem asT_ok (hS : Sat B K F C R H) (r : Rep K F v d) (h : asT d = some ds) : ∃ a xs, v = .ref a ∧ Rd H a (.tup xs) ∧ RepL K F xs ds := by
  cases r with
  | tup e q => cases h; exact ⟨_, _, rfl, rdUp e.1 hS.ex, q⟩
  | _ => cases h
end
/-- the order matters: what stands ahead is tried first -/
def aAdd : D → D → AH → (D → AH → Prop) → Prop := fun x y C P => match x, y with
  | .int i, .int j => P (.int (i + j)) C
  | .str i, .str j => i.length + j.length ≤ sizeLine ∧ P (.str (i ++ j)) C
  | .tup xs, .tup ys => xs.length + ys.length ≤ sizeLine ∧ P (.tup (xs ++ ys)) C
  | x, y => ∃ xs ys, asL C x = some xs ∧ asL C y = some ys ∧ xs.length + ys.length ≤ sizeLine ∧ P (.lst (xs ++ ys)) C
def rAddA (K : PySem.W.Frag) : R2 := fun x y H Q => (rI0 (fun i j => .int (i + j)) x y H Q ∨ (∃ i j, x = .str i ∧ y = .str j ∧ i.length + j.length ≤ sizeLine ∧ Q (.str (i ++ j)) H)) ∨ rCatTN K x y H Q ∨ rCat x y H Q
theorem sim_add : SimR2 B K (rAddA K) aAdd := by
  intro v w d e F C R H Q P hS r1 r2 h k
  unfold aAdd at h
  split at h
  · cases r1; cases r2
    exact .inl (.inl ⟨_, _, rfl, rfl, k _ _ F C H (Ex.refl F) hS (.int _) h⟩)
  · cases r1; cases r2
    exact .inl (.inr ⟨_, _, rfl, rfl, h.1, k _ _ F C H (Ex.refl F) hS (.str _) h.2⟩)
  · cases r1 with
    | @tup a xs us h1 q1 =>
      cases r2 with
      | @tup b ys ws h2 q2 =>
        refine .inr (.inl ⟨a, b, xs, ys, rfl, rfl, h1.sq hS.ex, h2.sq hS.ex, by rw [q1.length, q2.length]; exact h.1, fun z => ?_, fun _ z => ?_, fun _ _ p ob hob hp => ?_⟩)
        · subst z
          cases q1
          exact k _ _ F C H (Ex.refl F) hS (.tup h2 q2) h.2
        · subst z
          cases q2
          have := h.2
          rw [List.append_nil] at this
          exact k _ _ F C H (Ex.refl F) hS (.tup h1 q1) this
        · have e := Ex.new (o := .frz ob (.tup (xs ++ ys))) (hS.freeF hp)
          exact k _ _ _ C _ e (hS.newF hp _) (.tup (.frz hob upd_same) ((q1.append q2).mono e)) h.2
  · obtain ⟨xs', ys', h1, h2, hl, h3⟩ := h
    obtain ⟨a, xs, e1, ha, q1⟩ := asL_ok hS r1 h1
    obtain ⟨b, ys, e2, hb, q2⟩ := asL_ok hS r2 h2
    refine .inr (.inr ⟨a, b, xs, ys, e1, e2, ha, hb, by rw [q1.length, q2.length]; exact hl, fun p hp => ?_⟩)
    have e := Ex.new (o := .lst (xs ++ ys)) (hS.freeF hp)
    exact k _ _ _ C _ e (hS.newF hp _) (.lst upd_same ((q1.append q2).mono e)) h3
theorem ao_add (hK : X.K = K := by rfl) : AOp B X (binaryOp .Add) (rAddA K) aAdd := by
  subst hK
  exact ⟨(op_add.or op_add_str).or (op_catTN.or op_cat), sim_add⟩
/-- xs + ys, a list that will be changed -/
def aAddM : D → D → AH → (D → AH → Prop) → Prop := fun x y C P => ∃ xs ys, asL C x = some xs ∧ asL C y = some ys ∧ xs.length + ys.length ≤ sizeLine ∧ ∀ p, C p = none → P (.ce p) (put C p (.lst (xs ++ ys)))
theorem sim_addM : SimR2 B K rCat aAddM := by
  intro v w d e F C R H Q P hS r1 r2 h k
  obtain ⟨xs', ys', h1, h2, hl, h3⟩ := h
  obtain ⟨a, xs, e1, ha, q1⟩ := asL_ok hS r1 h1
  obtain ⟨b, ys, e2, hb, q2⟩ := asL_ok hS r2 h2
  refine ⟨a, b, xs, ys, e1, e2, ha, hb, by rw [q1.length, q2.length]; exact hl, fun p hp => ?_⟩
  exact k _ _ F _ _ (Ex.refl F) (hS.newC hp (.lst (q1.append q2))) (.ce p) (h3 p (hS.freeC hp))
theorem ao_addM : AOp B X (binaryOp .Add) rCat aAddM := ⟨op_cat, sim_addM⟩
end
end AL
namespace AL
open PySem PySem.Spec L2
variable {B : Bs}
section
variable {X : Cx} {pos : Pos} {K : PySem.W.Frag}
mutual
/-- the tree as the library's data (none: a cell within it) -/
def D.pd : D → Option PyData
  | .non => some .none
  | .bl b => some (.bool b)
  | .int i => some (.int i)
  | .str x => some (.str x)
  | .lst ds => (pdL ds).map .list
  | .tup ds => (pdL ds).map .tuple
  | .scr ns => some (.list (ns.map .int))
  | _ => none
def pdL : List D → Option (List PyData)
  | [] => some []
  | d :: ds => match D.pd d, pdL ds with | some x, some xs => some (x :: xs) | _, _ => none
end
def pdC (C : AH) : D → Option PyData
  | .ce p => match C p with | some (.lst ds) => (pdL ds).map .list | _ => none
  | d => d.pd
mutual
theorem Rep.dp {F H : Hp} (e : Ex F H) : ∀ {d : D} {v : V} {x : PyData}, Rep K F v d → d.pd = some x → Dp K H v x
  | .non, _, _, r, h => by cases r; cases h; exact .non
  | .bl b, _, _, r, h => by cases r; cases h; exact .bl b
  | .int i, _, _, r, h => by cases r; cases h; exact .int i
  | .str x, _, _, r, h => by cases r; cases h; exact .str x
  | .lst ds, _, _, r, h => by
    cases r with
    | lst h1 h2 =>
      unfold D.pd at h
      cases q : pdL ds with
      | none => rw [q] at h; cases h
      | some xs => rw [q] at h; cases h; exact .lst (SqL.of (e _ _ h1)) (RepL.dp e h2 q)
  | .tup ds, _, _, r, h => by
    cases r with
    | tup h1 h2 =>
      unfold D.pd at h
      cases q : pdL ds with
      | none => rw [q] at h; cases h
      | some xs => rw [q] at h; cases h; exact .tup (h1.sq e) (RepL.dp e h2 q)
  | .scr ns, _, _, r, h => by
    cases r with
    | scr h1 => 
      cases h
      refine .lst (e.l h1) ?_
      clear h1
      induction ns with
      | nil => exact .nil
      | cons n ns ih => exact .cons (.int n) ih
  | .dk _, _, _, _, h => by unfold D.pd at h; cases h
  | .ce _, _, _, _, h => by unfold D.pd at h; cases h
theorem RepL.dp {F H : Hp} (e : Ex F H) : ∀ {ds : List D} {vs : List V} {xs : List PyData}, RepL K F vs ds → pdL ds = some xs → DpAll K H vs xs
  | [], _, _, r, h => by cases r; cases h; exact .nil
  | d :: ds, _, _, r, h => by
    cases r with
    | cons r1 r2 =>
      unfold pdL at h
      split at h
      · rename_i q1 q2
        cases h
        exact .cons (Rep.dp e r1 q1) (RepL.dp e r2 q2)
      · cases h
end
theorem pdC_ok {F : Hp} {C : AH} {R H : Hp} {v : V} {d : D} {x : PyData} (hS : Sat B K F C R H) (r : Rep K F v d) (h : pdC C d = some x) : Dp K H v x := by
  cases d with
  | ce p =>
    cases r
    simp only [pdC] at h
    split at h
    · rename_i ds e
      cases q : pdL ds with
      | none => rw [q] at h; cases h
      | some xs =>
        rw [q] at h; cases h
        obtain ⟨_, o, h1, h2⟩ := hS.cell p _ e
        cases h2 with
        | lst h3 => exact .lst (SqL.of h1) (RepL.dp hS.ex h3 q)
    · cases h
  | _ => exact Rep.dp hS.ex r h
/-- flat values, == by itself -/
def eqS : D → D → Option Bool
  | .non, .non => some true
  | .non, .int _ => some false
  | .int _, .non => some false
  | .non, .bl _ => some false
  | .bl _, .non => some false
  | .non, .str _ => some false
  | .str _, .non => some false
  | .int i, .int j => some (decide (i = j))
  | .bl i, .bl j => some (decide (i = j))
  | .str i, .str j => some (decide (i = j))
  | .int _, .str _ => some false
  | .str _, .int _ => some false
  | .bl _, .str _ => some false
  | .str _, .bl _ => some false
  | _, _ => none
theorem eqS_ok {F : Hp} {v w : V} {d e : D} {b : Bool} (r1 : Rep K F v d) (r2 : Rep K F w e) (h : eqS d e = some b) : scal v w = true ∧ decide (v = w) = b := by
  unfold eqS at h
  split at h <;> first | (cases h; done) | (cases r1; cases r2; cases h; refine ⟨rfl, ?_⟩; first | rfl | (apply Bool.eq_iff_iff.mpr; simp; done))
def aEqN (neg : Bool) : D → D → AH → (D → AH → Prop) → Prop := fun x y C P => match eqS x y with
  | some b => P (.bl (if neg then !b else b)) C
  | none => ∃ d e, pdC C x = some d ∧ pdC C y = some e ∧ SeqAt.shaped d = true ∧ SeqAt.shaped e = true ∧ P (.bl (if neg then !PyData.eqv d e else PyData.eqv d e)) C
def aEq := aEqN false
def aNe := aEqN true
theorem sim_eq : SimR2 B K (fun x y H Q => rEq x y H Q ∨ rEqD K x y H Q) aEq := by
  intro v w d e F C R H Q P hS r1 r2 h k
  unfold aEq aEqN at h
  split at h
  · rename_i b q
    obtain ⟨h1, h2⟩ := eqS_ok r1 r2 q
    exact .inl ⟨h1, k _ _ F C H (Ex.refl F) hS (by rw [h2]; exact .bl b) h⟩
  · obtain ⟨d', e', h1, h2, s1, s2, h3⟩ := h
    exact .inr ⟨d', e', pdC_ok hS r1 h1, pdC_ok hS r2 h2, s1, s2, k _ _ F C H (Ex.refl F) hS (.bl _) h3⟩
theorem sim_ne : SimR2 B K (fun x y H Q => rNe x y H Q ∨ rNeD K x y H Q) aNe := by
  intro v w d e F C R H Q P hS r1 r2 h k
  unfold aNe aEqN at h
  split at h
  · rename_i b q
    obtain ⟨h1, h2⟩ := eqS_ok r1 r2 q
    exact .inl ⟨h1, k _ _ F C H (Ex.refl F) hS (by rw [h2]; exact .bl _) h⟩
  · obtain ⟨d', e', h1, h2, s1, s2, h3⟩ := h
    exact .inr ⟨d', e', pdC_ok hS r1 h1, pdC_ok hS r2 h2, s1, s2, k _ _ F C H (Ex.refl F) hS (.bl _) h3⟩
theorem ao_eq (hu : X.A.units + 64 < cLine) (hK : X.K = K := by rfl) : AOp B X (compareOp .Eq) (fun x y H Q => rEq x y H Q ∨ rEqD K x y H Q) aEq := by
  subst hK
  exact ⟨op_eq.or (op_eqD hu), sim_eq⟩
theorem ao_ne (hu : X.A.units + 64 < cLine) (hK : X.K = K := by rfl) : AOp B X (compareOp .NotEq) (fun x y H Q => rNe x y H Q ∨ rNeD K x y H Q) aNe := by
  subst hK
  exact ⟨op_ne.or (op_neD hu), sim_ne⟩
/-- is None -/
def isNon : D → Bool
  | .non => true
  | _ => false
def aIsN : D → D → AH → (D → AH → Prop) → Prop := fun x y C P => isNon y = true ∧ P (.bl (isNon x)) C
def aNotN : D → D → AH → (D → AH → Prop) → Prop := fun x y C P => isNon y = true ∧ P (.bl (!isNon x)) C
theorem isNon_ok {F : Hp} {v : V} {d : D} (r : Rep K F v d) : decide (v = .non) = isNon d := by
  cases r <;> rfl
theorem ao_is : AOp B X (compareOp .Is) (fun x y H Q => y = .non ∧ Q (.bl (decide (x = .non))) H) aIsN := ⟨op_isN, by
  intro v w d e F C R H Q P hS r1 r2 h k
  refine ⟨of_decide_eq_true ((isNon_ok r2).trans h.1), k _ _ F C H (Ex.refl F) hS (by rw [isNon_ok r1]; exact .bl _) h.2⟩⟩
theorem ao_isnot : AOp B X (compareOp .IsNot) (fun x y H Q => y = .non ∧ Q (.bl (!decide (x = .non))) H) aNotN := ⟨op_notN, by
  intro v w d e F C R H Q P hS r1 r2 h k
  refine ⟨of_decide_eq_true ((isNon_ok r2).trans h.1), k _ _ F C H (Ex.refl F) hS (by rw [isNon_ok r1]; exact .bl _) h.2⟩⟩
def truth (C : AH) : D → Option Bool
  | .non => some false
  | .bl b => some b
  | .int i => some (i != 0)
  | .str x => if x.length ≤ sizeLine then some ((x.length : Int) != 0) else none
  | .lst ds => some (!ds.isEmpty)
  | .tup ds => some (!ds.isEmpty)
  | .scr ns => some (!ns.isEmpty)
  | .dk kvs => some (!kvs.isEmpty)
  | .ce p => match C p with | some (.lst ds) => some (!ds.isEmpty) | some (.dk kvs) => some (!kvs.isEmpty) | _ => none
theorem RepL.empty {F : Hp} {vs : List V} {ds : List D} (r : RepL K F vs ds) : (!vs.isEmpty) = !ds.isEmpty := by cases r <;> rfl
theorem RepK.empty {F : Hp} {vs : List (Key × V)} {ds : List (Key × D)} (r : RepK K F vs ds) : (!vs.isEmpty) = !ds.isEmpty := by cases r <;> rfl
theorem truth_ok {F : Hp} {C : AH} {R H : Hp} {v : V} {d : D} {b : Bool} (hS : Sat B K F C R H) (r : Rep K F v d) (h : truth C d = some b) : TruV K v H b := by
  cases r with
  | non => cases h; rfl
  | bl b => cases h; rfl
  | int i => cases h; rfl
  | str x =>
    simp only [truth] at h
    split at h
    · rename_i hz
      cases h
      exact ⟨hz, rfl⟩
    · cases h
  | lst e q => cases h; exact .inl ⟨_, SqL.of (hS.ex _ _ e), q.empty.symm⟩
  | tup e q => cases h; exact .inr (.inl ⟨_, e.sq hS.ex, q.empty.symm⟩)
  | dk e q => cases h; exact .inr (.inr ⟨_, hS.ex _ _ e, q.empty.symm⟩)
  | scr e =>
    cases h
    refine .inl ⟨_, hS.ex.l e, ?_⟩
    rename_i ns
    cases ns <;> rfl
  | ce p =>
    simp only [truth] at h
    split at h
    · rename_i e
      cases h
      obtain ⟨_, o, h1, h2⟩ := hS.cell p _ e
      cases h2 with
      | lst q => exact .inl ⟨_, SqL.of h1, q.empty.symm⟩
    · rename_i e
      cases h
      obtain ⟨_, o, h1, h2⟩ := hS.cell p _ e
      cases h2 with
      | dk q => exact .inr (.inr ⟨_, h1, q.empty.symm⟩)
    · cases h
def aTru (a : AE') : AT' := fun s C P => a s C fun x C1 => match truth C1 x with | some b => P b C1 | none => False
theorem sim_tru {ta : TE} {a : AE'} (ha : SimE B K ta a) : SimT B K (fun σ H Q => ta σ H fun x H' => ∃ k, TruV K x H' k ∧ Q k H') (aTru a) := by
  intro σ s F C R H Q P hs hS h k
  refine ha σ s F C R H _ _ hs hS h fun x v F1 C1 H1 e1 S1 r1 h1 => ?_
  split at h1
  · rename_i b q
    exact ⟨b, truth_ok S1 r1 q, k b F1 C1 H1 e1 S1 h1⟩
  · exact h1.elim
theorem at_tru {e : Expr} {te : TE} {a : AE'} (h : AE B X e te a) (he : ∀ whole, isTrue e X.env whole = (do let v ← whole; standAt e.pos; holding [v] (truthy v)) := by intro _; rfl) (hK : X.K = K := by rfl) :
    AT B X e (fun σ H Q => te σ H fun x H' => ∃ k, TruV K x H' k ∧ Q k H') (aTru a) := by
  subst hK
  exact ⟨pt_truth h.pe he, sim_tru h.sim⟩
/-- a comparison's value as a test -/
def aB (a : AE') : AT' := fun s C P => a s C fun x C1 => match x with | .bl b => P b C1 | _ => False
theorem sim_B {ta : TE} {a : AE'} (ha : SimE B K ta a) : SimT B K (tTest ta) (aB a) := by
  intro σ s F C R H Q P hs hS h k
  refine ha σ s F C R H _ _ hs hS h fun x v F1 C1 H1 e1 S1 r1 h1 => ?_
  split at h1
  · cases r1
    exact ⟨_, rfl, k _ F1 C1 H1 e1 S1 h1⟩
  · exact h1.elim
theorem at_cmp {o : CmpOp} {r ar} {a b : Expr} {ta tb : TE} {aa ab : AE'} (ho : AOp B X (compareOp o) r ar) (ha : AE B X a ta aa) (hb : AE B X b tb ab) (hm : behindInMarks o b = false := by first | exact nomark _ | with_unfolding_all rfl) : AT B X (.Compare a [o] [b] pos) (tTest (tOp r ta tb)) (aB (aOp ar aa ab)) :=
  ⟨pt_cmpR ho.op ha.pe hb.pe hm, sim_B (sim_op ho.sim ha.sim hb.sim)⟩
/-- a < b < c -/
def aChain (r r' : D → D → AH → (D → AH → Prop) → Prop) (a b c : AE') : AE' := fun s C P => a s C fun x C1 => b s C1 fun y C2 => r x y C2 fun z C3 => match z with
  | .bl true => c s C3 fun w C4 => r' y w C4 P
  | .bl false => P (.bl false) C3
  | _ => False
theorem sim_chain {r r' : R2} {ar ar'} {ta tb tc : TE} {a b c : AE'} (hr : SimR2 B K r ar) (hr' : SimR2 B K r' ar') (ha : SimE B K ta a) (hb : SimE B K tb b) (hc : SimE B K tc c) : SimE B K (tChain r r' ta tb tc) (aChain ar ar' a b c) := by
  intro σ s F C R H Q P hs hS h k
  refine ha σ s F C R H _ _ hs hS h fun x v F1 C1 H1 e1 S1 r1 h1 => ?_
  refine hb σ s F1 C1 R H1 _ _ (hs.mono e1) S1 h1 fun y w F2 C2 H2 e2 S2 r2 h2 => ?_
  refine hr v w x y F2 C2 R H2 _ _ S2 (r1.mono e2) r2 h2 fun z u F3 C3 H3 e3 S3 r3 h3 => ?_
  split at h3
  · cases r3
    refine ⟨true, rfl, ?_⟩
    rw [if_pos rfl]
    refine hc σ s F3 C3 R H3 _ _ (hs.mono ((e1.trans e2).trans e3)) S3 h3 fun w' u' F4 C4 H4 e4 S4 r4 h4 => ?_
    exact hr' w u' y w' F4 C4 R H4 Q P S4 (r2.mono (e3.trans e4)) r4 h4 fun d u F5 C5 H5 e5 S5 r5 h5 => k d u F5 C5 H5 ((((e1.trans e2).trans e3).trans e4).trans e5) S5 r5 h5
  · cases r3
    refine ⟨false, rfl, ?_⟩
    rw [if_neg Bool.false_ne_true]
    exact k _ _ F3 C3 H3 ((e1.trans e2).trans e3) S3 (.bl false) h3
  · exact h3.elim
theorem ae_chain {o o' : CmpOp} {r r' ar ar'} {a b c : Expr} {ta tb tc : TE} {aa ab ac : AE'} (ho : AOp B X (compareOp o) r ar) (ho' : AOp B X (compareOp o') r' ar') (ha : AE B X a ta aa) (hb : AE B X b tb ab) (hc : AE B X c tc ac)
    (hm : lastMarks [o, o'] [b, c] = false := by first | rfl | with_unfolding_all rfl) : AE B X (.Compare a [o, o'] [b, c] pos) (tChain r r' ta tb tc) (aChain ar ar' aa ab ac) :=
  ⟨pe_chain ho.op ho'.op ha.pe hb.pe hc.pe hm, sim_chain ho.sim ho'.sim ha.sim hb.sim hc.sim⟩
theorem at_chain {o o' : CmpOp} {r r' ar ar'} {a b c : Expr} {ta tb tc : TE} {aa ab ac : AE'} (ho : AOp B X (compareOp o) r ar) (ho' : AOp B X (compareOp o') r' ar') (ha : AE B X a ta aa) (hb : AE B X b tb ab) (hc : AE B X c tc ac)
    (hm : lastMarks [o, o'] [b, c] = false := by first | rfl | with_unfolding_all rfl) : AT B X (.Compare a [o, o'] [b, c] pos) (tTest (tChain r r' ta tb tc)) (aB (aChain ar ar' aa ab ac)) :=
  ⟨pt_chain ho.op ho'.op ha.pe hb.pe hc.pe hm, sim_B (sim_chain ho.sim ho'.sim ha.sim hb.sim hc.sim)⟩
def aAnd (a b : AT') : AT' := fun s C P => a s C fun c C1 => if c = true then b s C1 P else P false C1
def aOr (a b : AT') : AT' := fun s C P => a s C fun c C1 => if c = true then P true C1 else b s C1 P
def aNot (a : AT') : AT' := fun s C P => a s C fun c C1 => P (!c) C1
theorem sim_and {t u : TT} {a b : AT'} (ha : SimT B K t a) (hb : SimT B K u b) : SimT B K (tAnd t u) (aAnd a b) := by
  intro σ s F C R H Q P hs hS h k
  refine ha σ s F C R H _ _ hs hS h fun c F1 C1 H1 e1 S1 h1 => ?_
  cases c with
  | true => exact hb σ s F1 C1 R H1 Q P (hs.mono e1) S1 h1 fun c F2 C2 H2 e2 S2 h2 => k c F2 C2 H2 (e1.trans e2) S2 h2
  | false => exact k false F1 C1 H1 e1 S1 h1
theorem sim_or {t u : TT} {a b : AT'} (ha : SimT B K t a) (hb : SimT B K u b) : SimT B K (tOr t u) (aOr a b) := by
  intro σ s F C R H Q P hs hS h k
  refine ha σ s F C R H _ _ hs hS h fun c F1 C1 H1 e1 S1 h1 => ?_
  cases c with
  | false => exact hb σ s F1 C1 R H1 Q P (hs.mono e1) S1 h1 fun c F2 C2 H2 e2 S2 h2 => k c F2 C2 H2 (e1.trans e2) S2 h2
  | true => exact k true F1 C1 H1 e1 S1 h1
theorem sim_not {t : TT} {a : AT'} (ha : SimT B K t a) : SimT B K (tNot t) (aNot a) := by
  intro σ s F C R H Q P hs hS h k
  exact ha σ s F C R H _ _ hs hS h fun c F1 C1 H1 e1 S1 h1 => k (!c) F1 C1 H1 e1 S1 h1
section
variable {a b : Expr} {t u : TT} {ta tb : TE} {xa xb : AT'} {aa ab : AE'} {rest : List Expr}
theorem aw_and1 (h : AT B X a t xa) : AW B X (.BoolOp .And [a] pos) t xa := ⟨pw_and1 h.pt, h.sim⟩
theorem aw_or1 (h : AT B X a t xa) : AW B X (.BoolOp .Or [a] pos) t xa := ⟨pw_or1 h.pt, h.sim⟩
theorem aw_and (h : AT B X a t xa) (g : AW B X (.BoolOp .And (b :: rest) pos) u xb) : AW B X (.BoolOp .And (a :: b :: rest) pos) (tAnd t u) (aAnd xa xb) := ⟨pw_and h.pt g.pw, sim_and h.sim g.sim⟩
theorem aw_or (h : AT B X a t xa) (g : AW B X (.BoolOp .Or (b :: rest) pos) u xb) : AW B X (.BoolOp .Or (a :: b :: rest) pos) (tOr t u) (aOr xa xb) := ⟨pw_or h.pt g.pw, sim_or h.sim g.sim⟩
theorem aw_t (h : AW B X a t xa) : AT B X a t xa := ⟨h.pw.pt, h.sim⟩
theorem at_not (h : AT B X a t xa) : AT B X (.UnaryOp .Not a pos) (tNot t) (aNot xa) := ⟨pt_not h.pt, sim_not h.sim⟩
/-- as values -/
def aAndV (a b : AE') : AE' := fun s C P => a s C fun x C1 => match truth C1 x with | some true => b s C1 P | some false => P x C1 | none => False
def aOrV (a b : AE') : AE' := fun s C P => a s C fun x C1 => match truth C1 x with | some true => P x C1 | some false => b s C1 P | none => False
def aNotV (a : AE') : AE' := fun s C P => a s C fun x C1 => match truth C1 x with | some b => P (.bl (!b)) C1 | none => False
theorem sim_andV (ha : SimE B K ta aa) (hb : SimE B K tb ab) : SimE B K (tAndT K ta tb) (aAndV aa ab) := by
  intro σ s F C R H Q P hs hS h k
  refine ha σ s F C R H _ _ hs hS h fun x v F1 C1 H1 e1 S1 r1 h1 => ?_
  split at h1
  · rename_i q
    refine ⟨true, truth_ok S1 r1 q, ?_⟩
    rw [if_pos rfl]
    exact hb σ s F1 C1 R H1 Q P (hs.mono e1) S1 h1 fun d u F2 C2 H2 e2 S2 r2 h2 => k d u F2 C2 H2 (e1.trans e2) S2 r2 h2
  · rename_i q
    refine ⟨false, truth_ok S1 r1 q, ?_⟩
    rw [if_neg Bool.false_ne_true]
    exact k x v F1 C1 H1 e1 S1 r1 h1
  · exact h1.elim
theorem sim_orV (ha : SimE B K ta aa) (hb : SimE B K tb ab) : SimE B K (tOrT K ta tb) (aOrV aa ab) := by
  intro σ s F C R H Q P hs hS h k
  refine ha σ s F C R H _ _ hs hS h fun x v F1 C1 H1 e1 S1 r1 h1 => ?_
  split at h1
  · rename_i q
    refine ⟨true, truth_ok S1 r1 q, ?_⟩
    rw [if_pos rfl]
    exact k x v F1 C1 H1 e1 S1 r1 h1
  · rename_i q
    refine ⟨false, truth_ok S1 r1 q, ?_⟩
    rw [if_neg Bool.false_ne_true]
    exact hb σ s F1 C1 R H1 Q P (hs.mono e1) S1 h1 fun d u F2 C2 H2 e2 S2 r2 h2 => k d u F2 C2 H2 (e1.trans e2) S2 r2 h2
  · exact h1.elim
theorem ae_one {op} (h : AE B X a ta aa) : AE B X (.BoolOp op [a] pos) ta aa := ⟨pe_one h.pe, h.sim⟩
theorem ae_and (h : AE B X a ta aa) (g : AE B X (.BoolOp .And (b :: rest) pos) tb ab) (hK : X.K = K := by rfl) : AE B X (.BoolOp .And (a :: b :: rest) pos) (tAndT K ta tb) (aAndV aa ab) := by
  subst hK
  exact ⟨pe_andT h.pe g.pe, sim_andV h.sim g.sim⟩
theorem ae_or (h : AE B X a ta aa) (g : AE B X (.BoolOp .Or (b :: rest) pos) tb ab) (hK : X.K = K := by rfl) : AE B X (.BoolOp .Or (a :: b :: rest) pos) (tOrT K ta tb) (aOrV aa ab) := by
  subst hK
  exact ⟨pe_orT h.pe g.pe, sim_orV h.sim g.sim⟩
def aIf (t : AT') (a b : AE') : AE' := fun s C P => t s C fun c C1 => if c = true then a s C1 P else b s C1 P
def aNeg : D → AH → (D → AH → Prop) → Prop := fun x C P => match x with | .int i => P (.int (-i)) C | _ => False
theorem ae_neg (h : AE B X a ta aa) : AE B X (.UnaryOp .USub a pos) (tUn (rU fun i => .int (-i)) ta) (aUn aNeg aa) := ⟨pe_un un_neg h.pe, sim_un (by
  intro v d F C R H Q P hS r h0 k
  unfold aNeg at h0
  split at h0
  · cases r; exact ⟨_, rfl, k _ _ F C H (Ex.refl F) hS (.int _) h0⟩
  · exact h0.elim) h.sim⟩
end
def aNil : AA' := fun _ C P => P [] C
def aCons (a : AE') (r : AA') : AA' := fun s C P => a s C fun x C1 => r s C1 fun xs C2 => P (x :: xs) C2
theorem sim_nil : SimA B K 0 tNil aNil := fun σ s F C R H Q P hs hS h k => k [] [] F C H (Ex.refl F) hS .nil rfl h
theorem sim_cons {n : Nat} {ta : TE} {tr : TA} {a : AE'} {r : AA'} (ha : SimE B K ta a) (hr : SimA B K n tr r) : SimA B K (n + 1) (tCons ta tr) (aCons a r) := by
  intro σ s F C R H Q P hs hS h k
  refine ha σ s F C R H _ _ hs hS h fun x v F1 C1 H1 e1 S1 r1 h1 => ?_
  refine hr σ s F1 C1 R H1 _ _ (hs.mono e1) S1 h1 fun xs vs F2 C2 H2 e2 S2 r2 hl h2 => ?_
  exact k (x :: xs) (v :: vs) F2 C2 H2 (e1.trans e2) S2 (.cons (r1.mono e2) r2) (by rw [List.length_cons, hl]) h2
theorem aa_nil : AA B X [] 0 tNil aNil := ⟨pa_nil, sim_nil⟩
theorem aa_cons {e : Expr} {es : List Expr} {n : Nat} {te : TE} {t : TA} {a : AE'} {r : AA'} (h : AE B X e te a) (g : AA B X es n t r) (hs : starEach (e :: es) X.env = (false, eval e X.env) :: starEach es X.env := by rfl) : AA B X (e :: es) (n + 1) (tCons te t) (aCons a r) := ⟨pa_cons h.pe g.pa hs, sim_cons h.sim g.sim⟩
def aTup (a : AA') : AE' := fun s C P => a s C fun ds C1 => ds.length ≤ sizeLine ∧ P (.tup ds) C1
def aLst (a : AA') : AE' := fun s C P => a s C fun ds C1 => ds.length ≤ sizeLine ∧ P (.lst ds) C1
def aLstM (a : AA') : AE' := fun s C P => a s C fun ds C1 => ds.length ≤ sizeLine ∧ ∀ p, C1 p = none → P (.ce p) (put C1 p (.lst ds))
theorem ae_tup {es : List Expr} {n : Nat} {t : TA} {a : AA'} {x1} (h : AA B X es n t a) : AE B X (.Tuple es x1 pos) (tTupN t) (aTup a) := ⟨pe_tupN h.pa, by
  intro σ s F C R H Q P hs hS h0 k
  refine h.sim σ s F C R H _ _ hs hS h0 fun ds vs F1 C1 H1 e1 S1 r1 hl h1 => ⟨by rw [r1.length]; exact h1.1, fun p ob hob hp => ?_⟩
  have e := Ex.new (o := .frz ob (.tup vs)) (S1.freeF hp)
  exact k _ _ _ C1 _ (e1.trans e) (S1.newF hp _) (.tup (.frz hob upd_same) (r1.mono e)) h1.2⟩
theorem ae_lst {es : List Expr} {n : Nat} {t : TA} {a : AA'} (h : AA B X es n t a) : AE B X (.List es pos) (tLst t) (aLst a) := ⟨pe_lst h.pa, by
  intro σ s F C R H Q P hs hS h0 k
  refine h.sim σ s F C R H _ _ hs hS h0 fun ds vs F1 C1 H1 e1 S1 r1 hl h1 => ⟨by rw [r1.length]; exact h1.1, fun p hp => ?_⟩
  have e := Ex.new (o := .lst vs) (S1.freeF hp)
  exact k _ _ _ C1 _ (e1.trans e) (S1.newF hp _) (.lst upd_same (r1.mono e)) h1.2⟩
theorem ae_lstM {es : List Expr} {n : Nat} {t : TA} {a : AA'} (h : AA B X es n t a) : AE B X (.List es pos) (tLst t) (aLstM a) := ⟨pe_lst h.pa, by
  intro σ s F C R H Q P hs hS h0 k
  refine h.sim σ s F C R H _ _ hs hS h0 fun ds vs F1 C1 H1 e1 S1 r1 hl h1 => ⟨by rw [r1.length]; exact h1.1, fun p hp => ?_⟩
  exact k _ _ F1 _ _ e1 (S1.newC hp (.lst r1)) (.ce p) (h1.2 p (S1.freeC hp))⟩
end
end AL
namespace AL
open PySem PySem.Spec L2
variable {B : Bs}
section
variable {X : Cx} {pos : Pos} {K : PySem.W.Frag}
def asS (C : AH) : D → Option (List D)
  | .tup ds => some ds
  | d => asLr C d
def aIx : D → D → AH → (D → AH → Prop) → Prop := fun x y C P => match x, y with
  | .str z, .int i => z.length ≤ sizeLine ∧ (match atI z.cps.toList i with | some c => P (.str ⟨#[c]⟩) C | none => False)
  | x, .int i => (match asS C x with | some ds => (match atI ds i with | some d => P d C | none => False) | none => False)
  | _, _ => False
theorem RepL.atI {F : Hp} {vs : List V} {ds : List D} {i : Int} {d : D} (r : RepL K F vs ds) (h : atI ds i = some d) : ∃ v, L2.atI vs i = some v ∧ Rep K F v d := by
  unfold L2.atI at h ⊢
  rw [r.length]
  cases q : ixN ds.length i with
  | none => rw [q] at h; cases h
  | some j =>
    rw [q] at h
    obtain ⟨v, h1, h2⟩ := r.getD (show ds[j]? = some d from h)
    exact ⟨v, h1, h2⟩
theorem sim_ix : SimR2 B K (rIx K) aIx := by
  intro v w d e F C R H Q P hS r1 r2 h k
  unfold aIx at h
  split at h
  · cases r1; cases r2
    obtain ⟨hz, h⟩ := h
    split at h
    · rename_i c q
      exact .inr (.inr ⟨_, _, c, rfl, rfl, hz, q, k _ _ F C H (Ex.refl F) hS (.str _) h⟩)
    · exact h.elim
  · cases r2
    split at h
    · rename_i ds q
      split at h
      · rename_i d' q2
        cases d with
        | tup us =>
          cases q
          obtain ⟨a, xs, e1, h1, h2⟩ := asT_ok hS r1 rfl
          obtain ⟨v', h3, h4⟩ := h2.atI q2
          exact .inr (.inl ⟨a, xs, _, v', e1, rfl, SqT.of h1, h3, k _ _ F C H (Ex.refl F) hS h4 h⟩)
        | _ =>
          obtain ⟨a, xs, e1, h1, h2⟩ := asLr_ok hS r1 (show asLr C _ = some ds from q)
          obtain ⟨v', h3, h4⟩ := h2.atI q2
          exact .inl ⟨a, xs, _, v', e1, rfl, h1, h3, k _ _ F C H (Ex.refl F) hS h4 h⟩
      · exact h.elim
    · exact h.elim
  · exact h.elim
theorem ae_ix {a b : Expr} {ta tb : TE} {aa ab : AE'} (ha : AE B X a ta aa) (hb : AE B X b tb ab) (hs : PlainIx b := by exact fun _ _ => rfl) (hK : X.K = K := by rfl) : AE B X (.Subscript a b pos) (tOp (rIx K) ta tb) (aOp aIx aa ab) := by
  subst hK
  exact ⟨pe_ix ix_seq ha.pe hb.pe hs, sim_op sim_ix ha.sim hb.sim⟩
abbrev AO' := ASt → AH → (Option Int → AH → Prop) → Prop
def SimO (B : Bs) (K : PySem.W.Frag) (to : TO) (a : AO') : Prop := ∀ (σ : L2.St) (s : ASt) (F : Hp) (C : AH) (R H : Hp) (Q : Option Int → Hp → Prop) (P : Option Int → AH → Prop), Slo K F s σ → Sat B K F C R H → a s C P →
  (∀ o F' C' H', Ex F F' → Sat B K F' C' R H' → P o C' → Q o H') → to σ H Q
structure AO (B : Bs) (X : Cx) (e : Option Expr) (to : TO) (a : AO') : Prop where
  po : PO X e to
  sim : SimO B X.K to a
def aNoPart : AO' := fun _ C P => P none C
def aPart (a : AE') : AO' := fun s C P => a s C fun x C1 => match x with | .int i => P (some i) C1 | _ => False
theorem ao_none : AO B X none tNoPart aNoPart := ⟨po_none, fun σ s F C R H Q P hs hS h k => k none F C H (Ex.refl F) hS h⟩
theorem ao_some {e : Expr} {te : TE} {a : AE'} (h : AE B X e te a) : AO B X (some e) (tPart te) (aPart a) := ⟨po_some h.pe, by
  intro σ s F C R H Q P hs hS h0 k
  refine h.sim σ s F C R H _ _ hs hS h0 fun x v F1 C1 H1 e1 S1 r1 h1 => ?_
  split at h1
  · cases r1
    exact ⟨_, rfl, k _ F1 C1 H1 e1 S1 h1⟩
  · exact h1.elim⟩
def cutD (xs : List D) (lo hi : Option Int) : List D := (xs.drop (HT.sIx xs.length 0 lo)).take (HT.sIx xs.length xs.length hi - HT.sIx xs.length 0 lo)
theorem RepL.cut {F : Hp} {vs : List V} {ds : List D} (r : RepL K F vs ds) (lo hi : Option Int) : RepL K F (cutV vs lo hi) (cutD ds lo hi) := by
  unfold cutV cutD
  rw [r.length]
  exact (r.drop _).take _
def aSl (r : D → Option Int → Option Int → AH → (D → AH → Prop) → Prop) (a : AE') (l h : AO') : AE' := fun s C P => a s C fun x C1 => l s C1 fun i C2 => h s C2 fun j C3 => r x i j C3 P
def SimRS (B : Bs) (K : PySem.W.Frag) (r : V → Option Int → Option Int → Hp → VK → Prop) (a : D → Option Int → Option Int → AH → (D → AH → Prop) → Prop) : Prop := ∀ (v : V) (d : D) (lo hi : Option Int) (F : Hp) (C : AH) (R H : Hp) (Q : VK) (P : D → AH → Prop), Sat B K F C R H → Rep K F v d → a d lo hi C P →
  (∀ d v F' C' H', Ex F F' → Sat B K F' C' R H' → Rep K F' v d → P d C' → Q v H') → r v lo hi H Q
theorem sim_sl {r ar} {ta : TE} {tl th : TO} {a : AE'} {l h : AO'} (hr : SimRS B K r ar) (ha : SimE B K ta a) (hl : SimO B K tl l) (hh : SimO B K th h) : SimE B K (tSl r ta tl th) (aSl ar a l h) := by
  intro σ s F C R H Q P hs hS h0 k
  refine ha σ s F C R H _ _ hs hS h0 fun x v F1 C1 H1 e1 S1 r1 h1 => ?_
  refine hl σ s F1 C1 R H1 _ _ (hs.mono e1) S1 h1 fun i F2 C2 H2 e2 S2 h2 => ?_
  refine hh σ s F2 C2 R H2 _ _ (hs.mono (e1.trans e2)) S2 h2 fun j F3 C3 H3 e3 S3 h3 => ?_
  exact hr v x i j F3 C3 R H3 Q P S3 (r1.mono (e2.trans e3)) h3 fun d u F4 C4 H4 e4 S4 r4 h4 => k d u F4 C4 H4 (((e1.trans e2).trans e3).trans e4) S4 r4 h4
def aCut : D → Option Int → Option Int → AH → (D → AH → Prop) → Prop := fun x lo hi C P => match x with
  | .str z => z.length ≤ sizeLine ∧ P (.str (cutS z lo hi)) C
  | .tup ds => P (.tup (cutD ds lo hi)) C
  | x => (match asLr C x with | some ds => P (.lst (cutD ds lo hi)) C | none => False)
def rCutA (K : PySem.W.Frag) : V → Option Int → Option Int → Hp → VK → Prop := fun x lo hi H Q => (rSlS x lo hi H Q ∨ rSlTN K x lo hi H Q) ∨ rSlL K x lo hi H Q
theorem cutD_all {ds : List D} {lo hi : Option Int} (h : HT.sIx ds.length 0 lo = 0 ∧ HT.sIx ds.length ds.length hi = ds.length) : cutD ds lo hi = ds := by
  unfold cutD
  rw [h.1, h.2, List.drop_zero, Nat.sub_zero, List.take_length]
theorem sim_cut : SimRS B K (rCutA K) aCut := by
  intro v d lo hi F C R H Q P hS r1 h k
  unfold aCut at h
  split at h
  · cases r1
    exact .inl (.inl ⟨_, rfl, h.1, k _ _ F C H (Ex.refl F) hS (.str _) h.2⟩)
  · cases r1 with
    | @tup a xs us h1 q1 =>
      refine .inl (.inr ⟨a, xs, rfl, h1.sq hS.ex, fun z => ?_, fun _ p ob hob hp => ?_⟩)
      · rw [q1.length] at z
        rw [cutD_all z] at h
        exact k _ _ F C H (Ex.refl F) hS (.tup h1 q1) h
      · have e := Ex.new (o := .frz ob (.tup (cutV xs lo hi))) (hS.freeF hp)
        exact k _ _ _ C _ e (hS.newF hp _) (.tup (.frz hob upd_same) ((q1.cut lo hi).mono e)) h
  · split at h
    · rename_i ds q
      obtain ⟨a, xs, e1, h1, h2⟩ := asLr_ok hS r1 q
      refine .inr ⟨a, xs, e1, h1, fun p hp => ?_⟩
      have e := Ex.new (o := .lst (cutV xs lo hi)) (hS.freeF hp)
      exact k _ _ _ C _ e (hS.newF hp _) (.lst upd_same ((h2.cut lo hi).mono e)) h
    · exact h.elim
theorem ae_cut {e : Expr} {lo hi : Option Expr} {te : TE} {tl th : TO} {a : AE'} {l h : AO'} {p2 : Pos} (he : AE B X e te a) (hl : AO B X lo tl l) (hh : AO B X hi th h) (hK : X.K = K := by rfl) : AE B X (.Subscript e (.Slice lo hi none p2) pos) (tSl (rCutA K) te tl th) (aSl aCut a l h) := by
  subst hK
  exact ⟨pe_slice ((sl_str.or sl_tupN).or sl_list) he.pe hl.po hh.po, sim_sl sim_cut he.sim hl.sim hh.sim⟩
/-- xs[::-1], a list -/
def aRev : D → AH → (D → AH → Prop) → Prop := fun x C P => match asLr C x with | some ds => P (.lst ds.reverse) C | none => False
structure ACa (B : Bs) (X : Cx) (f : Value) (r : List V → Hp → VK → Prop) (a : ASp) : Prop where
  op : CallR X f r
  sim : SimRL B X.K r a
def aCall (asp : ASp) (a : AA') : AE' := fun s C P => a s C fun ds C1 => asp ds C1 P
theorem sim_callB {n : Nat} {r : List V → Hp → VK → Prop} {ar : ASp} {ta : TA} {a : AA'} (hr : SimRL B K r ar) (ha : SimA B K n ta a) : SimE B K (tCB r ta) (aCall ar a) := by
  intro σ s F C R H Q P hs hS h k
  refine ha σ s F C R H _ _ hs hS h fun ds vs F1 C1 H1 e1 S1 r1 hl h1 => ?_
  exact hr vs ds F1 C1 R H1 Q P S1 r1 h1 fun d u F3 C3 H3 e3 S3 r3 h3 => k d u F3 C3 H3 (e1.trans e3) S3 r3 h3
section
variable {e : Expr} {es : List Expr} {n : Nat} {t : TA} {a : AA'} {r : List V → Hp → VK → Prop} {ar : ASp} {x : Str} {p : Pos} {id T : String}
theorem ae_callB (hc : ACa B X (.builtin id) r ar) (hm : X.mg x = none) (hv : bootBuiltins x = some (.builtin id)) (ha : AA B X (e :: es) n t a) (hg : Gl X x := by rfl) (hn : x ≠ "__name__" := by decide) (hdb : (x == ("__debug__" : Str)) = false := by decide)
    (he : starEach (e :: es) X.env = (false, eval e X.env) :: starEach es X.env := by rfl) (hpl : (backTo pos (starEach es X.env)).any (·.1) = false := by rfl) : AE B X (.Call (.Name x p) (e :: es) [] pos) (tCB r t) (aCall ar a) :=
  ⟨pe_callB hc.op hg hm hv ha.pa hn hdb he hpl, sim_callB hc.sim ha.sim⟩
theorem ae_callT (hc : ACa B X (.type T) r ar) (hm : X.mg x = none) (hv : bootBuiltins x = some (.type T)) (ha : AA B X (e :: es) n t a) (hg : Gl X x := by rfl) (hn : x ≠ "__name__" := by decide) (hdb : (x == ("__debug__" : Str)) = false := by decide)
    (he : starEach (e :: es) X.env = (false, eval e X.env) :: starEach es X.env := by rfl) (hpl : (backTo pos (starEach es X.env)).any (·.1) = false := by rfl) : AE B X (.Call (.Name x p) (e :: es) [] pos) (tCB r t) (aCall ar a) :=
  ⟨pe_callTy hc.op hg hm hv ha.pa hn hdb he hpl, sim_callB hc.sim ha.sim⟩
end
theorem asS_ok {F : Hp} {C : AH} {R H : Hp} {v : V} {d : D} {ds : List D} (hS : Sat B K F C R H) (r : Rep K F v d) (h : asS C d = some ds) : ∃ a xs, v = .ref a ∧ (SqL K H a xs ∨ SqT K H a xs) ∧ RepL K F xs ds := by
  cases d with
  | tup ws =>
    cases h
    obtain ⟨a, xs, e1, h1, h2⟩ := asT_ok hS r rfl
    exact ⟨a, xs, e1, .inr (SqT.of h1), h2⟩
  | _ =>
    obtain ⟨a, xs, e1, h1, h2⟩ := asLr_ok hS r (show asLr C _ = some ds from h)
    exact ⟨a, xs, e1, .inl h1, h2⟩
def aLen : ASp := fun ds C P => match ds with
  | [.str z] => z.length ≤ sizeLine ∧ P (.int z.length) C
  | [.ce q] => (match C q with | some (.lst us) => P (.int us.length) C | some (.dk us) => P (.int us.length) C | _ => False)
  | [.dk kvs] => P (.int kvs.length) C
  | [d] => (match asS C d with | some us => P (.int us.length) C | none => False)
  | _ => False
def rLenA (K : PySem.W.Frag) : List V → Hp → VK → Prop := fun xs H Q => (∃ x n, xs = [x] ∧ LenV K x H n ∧ Q (.int n) H) ∨ (∃ a kvs, xs = [V.ref a] ∧ H a = some (.dK kvs) ∧ Q (.int kvs.length) H)
theorem RepK.length {F : Hp} : ∀ {vs : List (Key × V)} {ds : List (Key × D)}, RepK K F vs ds → vs.length = ds.length
  | _, _, .nil => rfl
  | _, _, .cons _ t => by rw [List.length_cons, List.length_cons, RepK.length t]
theorem simLen : SimRL B K (rLenA K) aLen := by
  intro vs ds F C R H Q P hS r h k
  unfold aLen at h
  split at h
  · cases r with | cons r1 r2 => cases r2; cases r1; exact .inl ⟨_, _, rfl, ⟨h.1, rfl⟩, k _ _ F C H (Ex.refl F) hS (.int _) h.2⟩
  · cases r with
    | cons r1 r2 =>
      cases r2; cases r1
      split at h
      · rename_i e
        obtain ⟨_, o, h1, h2⟩ := hS.cell _ _ e
        cases h2 with
        | lst q => exact .inl ⟨_, _, rfl, .inl ⟨_, SqL.of h1, q.length.symm⟩, k _ _ F C H (Ex.refl F) hS (.int _) h⟩
      · rename_i e
        obtain ⟨_, o, h1, h2⟩ := hS.cell _ _ e
        cases h2 with
        | dk q => exact .inr ⟨_, _, rfl, h1, by rw [q.length]; exact k _ _ F C H (Ex.refl F) hS (.int _) h⟩
      · exact h.elim
  · cases r with | cons r1 r2 => cases r2; cases r1 with | dk e q => exact .inr ⟨_, _, rfl, hS.ex _ _ e, by rw [q.length]; exact k _ _ F C H (Ex.refl F) hS (.int _) h⟩
  · cases r with
    | cons r1 r2 =>
      cases r2
      split at h
      · rename_i us q
        obtain ⟨a, xs, e1, h1, h2⟩ := asS_ok hS r1 q
        subst e1
        rcases h1 with h1 | h1
        · exact .inl ⟨.ref a, _, rfl, .inl ⟨xs, h1, h2.length.symm⟩, k _ _ F C H (Ex.refl F) hS (.int _) h⟩
        · exact .inl ⟨.ref a, _, rfl, .inr ⟨xs, h1, h2.length.symm⟩, k _ _ F C H (Ex.refl F) hS (.int _) h⟩
      · exact h.elim
  · exact h.elim
theorem ac_len (hK : X.K = K := by rfl) : ACa B X (.builtin "len") (rLenA K) aLen := by
  subst hK
  exact ⟨call_len.or call_lenD, simLen⟩
def aAbs : ASp := fun ds C P => match ds with | [.int i] => P (.int (if i < 0 then -i else i)) C | _ => False
def aMax2 : ASp := fun ds C P => match ds with | [.int i, .int j] => P (.int (if j > i then j else i)) C | _ => False
def aMin2 : ASp := fun ds C P => match ds with | [.int i, .int j] => P (.int (if j < i then j else i)) C | _ => False
def aInt : ASp := fun ds C P => match ds with | [.int i] => P (.int i) C | [.bl b] => P (.int (if b then 1 else 0)) C | _ => False
theorem ac_int : ACa B X (.type "int") (fun xs H Q => (∃ i, xs = [.int i] ∧ Q (.int i) H) ∨ ∃ k, xs = [.bl k] ∧ Q (.int (if k then 1 else 0)) H) aInt := ⟨call_int1, by
  intro vs ds F C R H Q P hS r h k
  unfold aInt at h
  split at h
  · cases r with | cons r1 r2 => cases r2; cases r1; exact .inl ⟨_, rfl, k _ _ F C H (Ex.refl F) hS (.int _) h⟩
  · cases r with | cons r1 r2 => cases r2; cases r1; exact .inr ⟨_, rfl, k _ _ F C H (Ex.refl F) hS (.int _) h⟩
  · exact h.elim⟩
/-- list(xs), tuple(xs) of a list, a tuple -/
def aListOf : ASp := fun ds C P => match ds with | [d] => (match asS C d with | some us => P (.lst us) C | none => False) | _ => False
def aTupleOf : ASp := fun ds C P => match ds with | [.tup us] => P (.tup us) C | [d] => (match asS C d with | some us => P (.tup us) C | none => False) | _ => False
theorem ac_list (hK : X.K = K := by rfl) : ACa B X (.type "list") (fun xs H Q => ∃ p ys, xs = [.ref p] ∧ (SqL K H p ys ∨ SqT K H p ys) ∧ ∀ l, H l = none → Q (.ref l) (upd H l (.lst ys))) aListOf := by
  subst hK
  exact ⟨call_list_of, by
  intro vs ds F C R H Q P hS r h k
  unfold aListOf at h
  split at h
  · cases r with
    | cons r1 r2 =>
      cases r2
      split at h
      · rename_i us q
        obtain ⟨a, xs, e1, h1, h2⟩ := asS_ok hS r1 q
        refine ⟨a, xs, by rw [e1], h1, fun p hp => ?_⟩
        have e := Ex.new (o := .lst xs) (hS.freeF hp)
        exact k _ _ _ C _ e (hS.newF hp _) (.lst upd_same (h2.mono e)) h
      · exact h.elim
  · exact h.elim⟩
theorem ac_tuple (hK : X.K = K := by rfl) : ACa B X (.type "tuple") (rTupOfN K) aTupleOf := by
  subst hK
  exact ⟨call_tuple_ofN, by
  intro vs ds F C R H Q P hS r h k
  unfold aTupleOf at h
  split at h
  · cases r with
    | cons r1 r2 =>
      cases r2
      cases r1 with
      | tup h1 h2 => exact ⟨_, _, rfl, .inr ⟨h1.sq hS.ex, k _ _ F C H (Ex.refl F) hS (.tup h1 h2) h⟩⟩
  · rename_i d hd
    cases r with
    | cons r1 r2 =>
      cases r2
      split at h
      · rename_i us q
        have q' : asLr C d = some us := by
          cases d <;> first | exact q | exact absurd rfl (hd _)
        obtain ⟨a, xs, e1, h1, h2⟩ := asLr_ok hS r1 q'
        refine ⟨a, xs, by rw [e1], .inl ⟨h1, fun p ob hob hp => ?_⟩⟩
        have e := Ex.new (o := .frz ob (.tup xs)) (hS.freeF hp)
        exact k _ _ _ C _ e (hS.newF hp _) (.tup (.frz hob upd_same) (h2.mono e)) h
      · exact h.elim
  · exact h.elim⟩
/-- all, any, sum of a list -/
def blsD : List D → Option (List Bool)
  | [] => some []
  | .bl b :: ds => (blsD ds).map (b :: ·)
  | _ => none
def intsD : List D → Option (List Int)
  | [] => some []
  | .int b :: ds => (intsD ds).map (b :: ·)
  | _ => none
def strsD : List D → Option (List Str)
  | [] => some []
  | .str b :: ds => (strsD ds).map (b :: ·)
  | _ => none
theorem bls_ok : ∀ {ds : List D} {bs : List Bool}, blsD ds = some bs → ds = bs.map .bl
  | [], _, h => by cases h; rfl
  | .bl b :: ds, bs, h => by
    simp only [blsD] at h
    cases q : blsD ds with
    | none => rw [q] at h; cases h
    | some cs => rw [q] at h; cases h; rw [bls_ok q]; rfl
  | .non :: _, _, h => by cases h
  | .int _ :: _, _, h => by cases h
  | .str _ :: _, _, h => by cases h
  | .lst _ :: _, _, h => by cases h
  | .tup _ :: _, _, h => by cases h
  | .dk _ :: _, _, h => by cases h
  | .scr _ :: _, _, h => by cases h
  | .ce _ :: _, _, h => by cases h
theorem ints_ok : ∀ {ds : List D} {bs : List Int}, intsD ds = some bs → ds = bs.map .int
  | [], _, h => by cases h; rfl
  | .int b :: ds, bs, h => by
    simp only [intsD] at h
    cases q : intsD ds with
    | none => rw [q] at h; cases h
    | some cs => rw [q] at h; cases h; rw [ints_ok q]; rfl
  | .non :: _, _, h => by cases h
  | .bl _ :: _, _, h => by cases h
  | .str _ :: _, _, h => by cases h
  | .lst _ :: _, _, h => by cases h
  | .tup _ :: _, _, h => by cases h
  | .dk _ :: _, _, h => by cases h
  | .scr _ :: _, _, h => by cases h
  | .ce _ :: _, _, h => by cases h
theorem strs_ok : ∀ {ds : List D} {bs : List Str}, strsD ds = some bs → ds = bs.map .str
  | [], _, h => by cases h; rfl
  | .str b :: ds, bs, h => by
    simp only [strsD] at h
    cases q : strsD ds with
    | none => rw [q] at h; cases h
    | some cs => rw [q] at h; cases h; rw [strs_ok q]; rfl
  | .non :: _, _, h => by cases h
  | .bl _ :: _, _, h => by cases h
  | .int _ :: _, _, h => by cases h
  | .lst _ :: _, _, h => by cases h
  | .tup _ :: _, _, h => by cases h
  | .dk _ :: _, _, h => by cases h
  | .scr _ :: _, _, h => by cases h
  | .ce _ :: _, _, h => by cases h
@[simp] theorem bls_map (bs : List Bool) : blsD (bs.map D.bl) = some bs := by
  induction bs with
  | nil => rfl
  | cons b bs ih => simp [blsD, ih]
@[simp] theorem ints_map (bs : List Int) : intsD (bs.map D.int) = some bs := by
  induction bs with
  | nil => rfl
  | cons b bs ih => simp [intsD, ih]
@[simp] theorem strs_map (bs : List Str) : strsD (bs.map D.str) = some bs := by
  induction bs with
  | nil => rfl
  | cons b bs ih => simp [strsD, ih]
def aAll : ASp := fun ds C P => match ds with | [d] => (match (asLr C d).bind blsD with | some bs => P (.bl (bs.all id)) C | none => False) | _ => False
def aSum : ASp := fun ds C P => match ds with | [d] => (match (asLr C d).bind intsD with | some bs => P (.int bs.sum) C | none => False) | _ => False
theorem ac_all (hc : X.calm = true := by rfl) (hK : X.K = K := by rfl) : ACa B X (.builtin "all") (rAll K) aAll := by
  subst hK
  exact ⟨cr_all hc, by
  intro vs ds F C R H Q P hS r h k
  unfold aAll at h
  split at h
  · cases r with
    | cons r1 r2 =>
      cases r2
      split at h
      · rename_i bs q
        obtain ⟨us, q1, q2⟩ := Option.bind_eq_some_iff.mp q
        obtain ⟨a, xs, e1, h1, h2⟩ := asLr_ok hS r1 q1
        rw [bls_ok q2] at h2
        have e3 := h2.ofBls
        subst e3
        exact ⟨a, bs, by rw [e1], h1, k _ _ F C H (Ex.refl F) hS (.bl _) h⟩
      · exact h.elim
  · exact h.elim⟩
theorem ac_sum (hc : X.calm = true := by rfl) (hK : X.K = K := by rfl) : ACa B X (.builtin "sum") (rSum K) aSum := by
  subst hK
  exact ⟨cr_sum hc, by
  intro vs ds F C R H Q P hS r h k
  unfold aSum at h
  split at h
  · cases r with
    | cons r1 r2 =>
      cases r2
      split at h
      · rename_i bs q
        obtain ⟨us, q1, q2⟩ := Option.bind_eq_some_iff.mp q
        obtain ⟨a, xs, e1, h1, h2⟩ := asLr_ok hS r1 q1
        rw [ints_ok q2] at h2
        have e3 := h2.ofInts
        subst e3
        exact ⟨a, bs, by rw [e1], h1, k _ _ F C H (Ex.refl F) hS (.int _) h⟩
      · exact h.elim
  · exact h.elim⟩
def kindOf (C : AH) : D → Option String
  | .non => some "NoneType" | .bl _ => some "bool" | .int _ => some "int" | .str _ => some "str" | .lst _ => some "list" | .tup _ => some "tuple" | .dk _ => some "dict" | .scr _ => some "list"
  | .ce p => match C p with | some (.lst _) => some "list" | some (.dk _) => some "dict" | _ => none
theorem kindOf_ok {F : Hp} {C : AH} {R H : Hp} {v : V} {d : D} {t : String} (hS : Sat B K F C R H) (r : Rep K F v d) (h : kindOf C d = some t) : TyX K H v (.type t) := by
  cases r with
  | non => cases h; exact .base .non
  | bl b => cases h; exact .base (.bl b)
  | int i => cases h; exact .base (.int i)
  | str x => cases h; exact .base (.str x)
  | lst e q => cases h; exact .base (.lst (hS.ex _ _ e))
  | tup e q =>
    cases h
    rcases e.1 with e | ⟨o, e⟩
    · exact .base (.tup (hS.ex _ _ e))
    · exact .fTuple (hS.ex _ _ e)
  | dk e q => cases h; exact .base (.dK (hS.ex _ _ e))
  | scr e =>
    cases h
    rcases hS.ex.l e with (e | ⟨o, e⟩) | ⟨o, its, n, e, c, _⟩
    · exact .base (.lst e)
    · exact .base (.frz e)
    · exact .kList e c
  | ce p =>
    simp only [kindOf] at h
    split at h
    · rename_i e; cases h
      obtain ⟨_, o, h1, h2⟩ := hS.cell p _ e
      cases h2; exact .base (.lst h1)
    · rename_i e; cases h
      obtain ⟨_, o, h1, h2⟩ := hS.cell p _ e
      cases h2; exact .base (.dK h1)
    · cases h
def isT (T t : String) : Bool := t == T || (t == "bool" && T == "int")
theorem isT_ok : ∀ t ∈ ["NoneType", "bool", "int", "str", "list", "tuple", "dict"], ∀ T ∈ ["bool", "int", "str", "list", "tuple", "dict"], kitB t T = some (isT T t) := by decide +kernel
theorem kindOf_mem {C : AH} {d : D} {t : String} (h : kindOf C d = some t) : t ∈ ["NoneType", "bool", "int", "str", "list", "tuple", "dict"] := by
  unfold kindOf at h
  split at h <;> first | (cases h; decide) | (split at h <;> first | (cases h; decide) | cases h)
def aIsi (T : String) (a : AE') : AE' := fun s C P => a s C fun x C1 => match kindOf C1 x with | some t => P (.bl (isT T t)) C1 | none => False
theorem ae_isi {e : Expr} {te : TE} {a : AE'} {T : Str} {Tn : String} {p p2 : Pos} (h : AE B X e te a) (hm : X.mg "isinstance" = none) (hmT : X.mg T = none) (hv : bootBuiltins T = some (.type Tn)) (hT : Tn ∈ ["bool", "int", "str", "list", "tuple", "dict"] := by decide)
    (hg : Gl X "isinstance" := by rfl) (hgT : Gl X T := by rfl) (hb : bootBuiltins "isinstance" = some (.builtin "isinstance") := by decide +kernel) (hnT : T ≠ "__name__" := by decide) (hdT : (T == ("__debug__" : Str)) = false := by decide)
    (he : starEach [e, .Name T p2] X.env = (false, eval e X.env) :: starEach [.Name T p2] X.env := by rfl) (hpl : (backTo pos (starEach [.Name T p2] X.env)).any (·.1) = false := by rfl) (h2 : starEach [.Name T p2] X.env = (false, eval (.Name T p2) X.env) :: starEach [] X.env := by rfl) (hK : X.K = K := by rfl) :
    AE B X (.Call (.Name "isinstance" p) [e, .Name T p2] [] pos) (tCB (rIsi K) (tCons te (tCons (tC (.ty Tn)) tNil))) (aIsi Tn a) := by
  subst hK
  exact ⟨pe_callB call_isi hg hm hb (pa_cons h.pe (pa_cons (pe_bltn hgT hmT hv rfl hnT hdT) pa_nil h2) he) (by decide) (by decide) he hpl, by
    intro σ s F C R H Q P hs hS h0 k
    refine h.sim σ s F C R H _ _ hs hS h0 fun x v F1 C1 H1 e1 S1 r1 h1 => ?_
    split at h1
    · rename_i t q
      exact ⟨v, .ty Tn, .type t, .type Tn, isT Tn t, rfl, .ty Tn, kindOf_ok S1 r1 q, kit_ty (isT_ok t (kindOf_mem q) Tn hT), k _ _ F1 C1 H1 e1 S1 (.bl _) h1⟩
    · exact h1.elim⟩
end
end AL
namespace AL
open PySem PySem.Spec L2
variable {B : Bs}
open PyProof.Rows (envOfC)
section
variable {X : Cx} {pos : Pos} {K : PySem.W.Frag}
def spOf (w : Gd) (K : PySem.W.Frag) (n : Nat) (asp : ASp) : Sp := fun vs H Q _ => vs.length = n ∧ ∃ F C R ds P, Sat (Bs.nil w) K F C R H ∧ RepL K F vs ds ∧ asp ds C P ∧ ∀ d v F' C' H', Ex F F' → Sat (Bs.nil w) K F' C' R H' → Rep K F' v d → P d C' → Q v H'
/-- a def's promise, where no guard stands (so that repr may be asked) -/
structure FnG (P : Program) (w : World) (K : PySem.W.Frag) (mg : Str → Option Value) (base : Heap) (k : Nat) (f : Addr) (fd : FuncData) (ps : List Str) (sp : Sp) : Prop where
  len : ∀ vs H Q E, sp vs H Q E → vs.length = ps.length
  run : ∀ (A : Around) (out : List Env) (s : Shared) (H : Hp) (args : Args) (us : List Value) (vs : List V) (Q : VK) (E : XK), Room k A → A.guards = some [] → Env0 P w K mg base A out s H →
    BindsTo s fd args (ps.zip us) → Vals vs us → sp vs H Q E → codeAny (model P w) A (.call (.ref f) args) (CR (L2.CX P w) out P w H s Q E) s
theorem FnG.imp {P : Program} {w : World} {K : PySem.W.Frag} {mg : Str → Option Value} {base : Heap} {k : Nat} {f : Addr} {fd : FuncData} {ps : List Str} {sp sp' : Sp} (G : FnG P w K mg base k f fd ps sp) (h : ∀ vs H Q E, sp' vs H Q E → sp vs H Q E) : FnG P w K mg base k f fd ps sp' :=
  ⟨fun vs H Q E q => G.len vs H Q E (h _ _ _ _ q), fun A out s H args us vs Q E hr hg he hb hv hs => G.run A out s H args us vs Q E hr hg he hb hv (h _ _ _ _ hs)⟩
/-- by its body -/
theorem fnG_of {P : Program} {w : World} {K : PySem.W.Frag} {mg : Str → Option Value} {base : Heap} {x qual : Str} {st : Stmt} {f : Addr} {fd : FuncData} {N ps : List Str} {k : Nat} {sp : Sp} (F : L2.Fun K x qual st f fd) (S : FnScope N ps (defScope st)) (len : ∀ vs H Q E, sp vs H Q E → vs.length = ps.length)
    (hbody : ∀ (cdv : Value) (A : Around) (out : List Env) (s : Shared) (H : Hp) (vs : List V) (Q : VK) (E : XK), Room k (A.deeper (envOfC qual (defScope st) s.heap.objs.size f cdv)) → A.guards = some [] → sp vs H Q E →
      ∃ t, PSs (cxOf (L2.CX P w) P w K mg base N qual (defScope st) f cdv A out s H E) (defBody st) t ∧ t { nx := fun _ H1 => Q .non H1, rt := Q } (start N vs) H) : FnG P w K mg base (k + 1) f fd ps sp := by
  obtain ⟨oc, od, kV, doc, pm, an, cdv, ct, osl, rfl, lk, hcd⟩ := F.ex
  refine ⟨len, fun A out s H args us vs Q E hr hg e0 hb rv hsp => ?_⟩
  have kin := e0.mod.kin.keeps fun b o e => (e0.bs b o e).1
  have nol := e0.mod.nolimit.keeps fun b o e => (e0.bs b o e).1
  have knd : ∀ z ∈ ps.zip us, (defScope st).names.lookup z.1 = some .local ∨ ((defScope st).names.lookup z.1 = some .cell ∧ ((cellsFrom (s.heap.objs.size + 1) (defScope st).names []).lookup z.1).isSome = true) := by
    intro z hz
    obtain ⟨n, v⟩ := z
    exact (S.par n (List.of_mem_zip hz).1).elim .inl fun q => .inr ⟨q, PySem.W.cellsFrom_some _ _ _ (.inl q)⟩
  refine codeAny_call_function hr.depth (kin _ _ lk) rfl S.co S.gen rfl (PySem.W.codeRec_of kin hcd) (hb _ _ _ _ (wpAny_newFunctionEnv_cells S.kind knd fun env he s1 made => ?_))
  subst he
  refine ⟨nol.keeps made.toInCall.keep, codeAny_func ?_⟩
  obtain ⟨t, ht, q0⟩ := hbody cdv A out s H vs Q E (hr.deeper _) hg hsp
  refine wpAny_mono (ht.run [] s1 (start N vs) H _ (inv_start S hr.hd e0 (len _ _ _ _ hsp) rv made) q0) (fun fl s2 z => ?_) fun _ _ z => z
  have done : ∀ {σ2 : L2.St} {H2 : Hp} {v : V} {u : Value}, Inv (cxOf (L2.CX P w) P w K mg base N qual (defScope st) f cdv A out s H E) [] σ2 H2 s2 → RelV v u → Q v H2 → CE out P w H s Q u s2 := fun J r q => ⟨_, _, J.os, J.bare, J.base, J.hok, r, q⟩
  cases fl with
  | next => obtain ⟨σ2, H2, J, q⟩ := z; exact done (v := .non) (u := .none) J rfl q
  | ret u => obtain ⟨v, σ2, H2, J, r, q⟩ := z; exact done J r q
  | brk => obtain ⟨_, _, _, q⟩ := z; exact q.elim
  | cont => obtain ⟨_, _, _, q⟩ := z; exact q.elim
section
variable {k : Nat} {f : Addr} {fd : FuncData} {ps : List Str} {sp : Sp} {E : L2.St → XK} {x : Str} {p : Pos} {e : Expr} {es : List Expr} {t : TA}
theorem run_G {pins : List (Addr × Obj)} {σ : L2.St} {H : Hp} {s : Shared} {Q : VK} {us : List Value} {vs : List V} (G : FnG X.prog X.w X.K X.mg X.base k f fd ps sp) (hr : Room k X.A) (hgd : X.A.guards = some []) (hb : Binds X.K fd ps []) (hx : PassesAt (L2.CX X.prog X.w) X σ (E σ))
    (I : Inv X pins σ H s) (r : Vals vs us) (h : sp vs H Q (E σ)) : wpAny (model X.prog X.w) X.A (call (.ref f) us) (EP X pins σ Q) X.xe s := by
  have hl : us.length = ps.length := r.length.symm.trans (G.len _ _ _ _ h)
  have b := hb s us I.kIn ((congrArg List.length (List.append_nil us)).trans hl)
  rw [List.append_nil] at b
  refine wpAny_call (codeAny_mono (G.run X.A X.stack s H ⟨us, []⟩ us vs Q (E σ) hr hgd I.env0 b r h) fun res s2 z => ?_)
  match res, z with
  | .error e, z => exact hx pins H s e s2 I z
  | .ok (.ret u), z => exact I.after z
  | .ok .next, z => exact False.elim z
  | .ok .brk, z => exact False.elim z
  | .ok .cont, z => exact False.elim z
theorem pe_callG (G : FnG X.prog X.w X.K X.mg X.base k f fd ps sp) (hr : Room k X.A) (hgd : X.A.guards = some []) (hg : Gl X x) (hm : X.mg x = some (.ref f)) (hk : PySem.W.keepIn X.K (.ref f) = true) (hb : Binds X.K fd ps []) (hx : ∀ σ, PassesAt (L2.CX X.prog X.w) X σ (E σ))
    (ha : PA X (e :: es) t) (hdb : (x == ("__debug__" : Str)) = false := by decide) (he : starEach (e :: es) X.env = (false, eval e X.env) :: starEach es X.env := by rfl) (hpl : (backTo pos (starEach es X.env)).any (·.1) = false := by rfl) : PE X (.Call (.Name x p) (e :: es) [] pos) (tCallS sp E t) :=
  ⟨fun pins s σ H Q I h => wpAny_Call_Name_kw (ld_glob I hg hm (PySem.W.callWith_K (h₀ := X.base) I.ok.mod.kin hk (thn (ha.run pos pins s σ H _ I h) fun us s1 ⟨vs, H1, I1, r, q⟩ => ⟨I1.kIn, run_G G hr hgd hb (hx σ) I1 r q⟩) he hpl) hdb)⟩
end
abbrev E0S : L2.St → XK := fun _ _ _ _ => False
theorem passG {X : Cx} : ∀ σ, PassesAt (L2.CX X.prog X.w) X σ (E0S σ) := fun _ _ _ _ _ _ _ h => by
  obtain ⟨_, _, _, _, _, _, _, _, _, _, _, _, z⟩ := h
  exact z.elim
structure Cal (P : Program) (w : World) (K : PySem.W.Frag) (mg : Str → Option Value) (base : Heap) (k : Nat) (x : Str) (n : Nat) (asp : ASp) : Prop where
  ex : ∃ (f : Addr) (fd : FuncData) (ps : List Str), FnG P w K mg base k f fd ps (spOf ⟨w, mg⟩ K n asp) ∧ mg x = some (.ref f) ∧ PySem.W.keepIn K (.ref f) = true ∧ Binds K fd ps []
theorem sim_call {w : Gd} (hw : B.g = w) {n : Nat} {asp : ASp} {E : L2.St → XK} {ta : TA} {a : AA'} (ha : SimA B K n ta a) : SimE B K (tCallS (spOf w K n asp) E ta) (aCall asp a) := by
  subst hw
  intro σ s F C R H Q P hs hS h k
  refine ha σ s F C R H _ _ hs hS h fun ds vs F1 C1 H1 e1 S1 r1 hl h1 => ?_
  exact ⟨by rw [r1.length, hl], F1, C1, R, ds, P, S1.nil, r1, h1, fun d v F2 C2 H2 e2 S2 r2 h2 => k d v F2 C2 H2 (e1.trans e2) (S1.back e2 S2) r2 h2⟩
section
variable {e : Expr} {es : List Expr} {n : Nat} {t : TA} {a : AA'} {x : Str} {p : Pos} {asp : ASp} {k j : Nat}
theorem ae_call {g : Gd} (c : Cal X.prog X.w X.K X.mg X.base k x n asp) (hr : Room j X.A) (hgd : X.A.guards = some []) (ha : AA B X (e :: es) n t a) (hw : B.g = g := by first | rfl | assumption) (hX : (⟨X.w, X.mg⟩ : Gd) = g := by rfl) (hk : k ≤ j := by decide) (hg : Gl X x := by rfl)
    (hdb : (x == ("__debug__" : Str)) = false := by decide) (he : starEach (e :: es) X.env = (false, eval e X.env) :: starEach es X.env := by rfl) (hpl : (backTo pos (starEach es X.env)).any (·.1) = false := by rfl) (hK : X.K = K := by rfl) :
    AE B X (.Call (.Name x p) (e :: es) [] pos) (tCallS (spOf g K n asp) E0S t) (aCall asp a) := by
  subst hK
  exact ⟨by
  obtain ⟨f, fd, ps, F, hm, kp, b⟩ := c.ex
  rw [← hX]
  exact pe_callG F (hr.mono hk) hgd hg hm kp b passG ha.pa hdb he hpl, sim_call hw ha.sim⟩
end
/-- a def's body as what the def does -/
def aBody (n : Nat) (b : AS') : ASp := fun ds C P => b ⟨fun _ C' => P .non C', P, fun _ _ => False, fun _ _ => False⟩ (ds.map some ++ List.replicate (n - ds.length) none) C
theorem fnA {P : Program} {w : World} {K : PySem.W.Frag} {mg : Str → Option Value} {base : Heap} {x qual : Str} {st : Stmt} {f : Addr} {fd : FuncData} {N ps : List Str} {k : Nat} {b : AS'} {asp : ASp} (F : L2.Fun K x qual st f fd) (S : FnScope N ps (defScope st))
    (hbody : ∀ (cdv : Value) (A : Around) (outer : List Env) (s : Shared) (H : Hp) (E : XK), Room k (A.deeper (envOfC qual (defScope st) s.heap.objs.size f cdv)) → A.guards = some [] → ∃ ts, ASs (Bs.nil ⟨w, mg⟩) (cxOf (L2.CX P w) P w K mg base N qual (defScope st) f cdv A outer s H E).nox (defBody st) ts b)
    (h : ∀ ds C P, ds.length = ps.length → asp ds C P → aBody N.length b ds C P) : FnG P w K mg base (k + 1) f fd ps (spOf ⟨w, mg⟩ K ps.length asp) := by
  refine fnG_of F S (fun vs H Q E z => z.1) (fun cdv A outer s H vs Q E hr hg z => ?_)
  obtain ⟨ts, hps⟩ := hbody cdv A outer s H E hr hg
  obtain ⟨hl, F1, C, R, ds, P1, hS, hR, ha, hk⟩ := z
  refine ⟨ts, hps.ps.nox, ?_⟩
  have hb := h ds C P1 (by rw [← hR.length, hl]) ha
  refine hps.sim { nx := fun _ H' => Q .non H', rt := Q } ⟨fun _ C' => P1 .non C', P1, fun _ _ => False, fun _ _ => False⟩ _ _ F1 C R H ⟨fun s σ F' C' H' e _ S h => ?_, fun d v F' C' H' e r S h => ?_, fun _ _ _ _ _ _ _ _ h => h.elim, fun _ _ _ _ _ _ _ _ h => h.elim⟩ (Slo.start hR N.length) hS hb
  · exact hk .non .non F' C' H' e S .non h
  · exact hk d v F' C' H' e S r h
theorem calA {P : Program} {w : World} {K : PySem.W.Frag} {mg : Str → Option Value} {base : Heap} {x y qual : Str} {st : Stmt} {f : Addr} {fd : FuncData} {N ps : List Str} {k n : Nat} {b : AS'} {asp : ASp} (F : L2.Fun K x qual st f fd) (S : FnScope N ps (defScope st)) (hn : ps.length = n) (hm : mg y = some (.ref f)) (hb : Binds K fd ps [])
    (hbody : ∀ (cdv : Value) (A : Around) (outer : List Env) (s : Shared) (H : Hp) (E : XK), Room k (A.deeper (envOfC qual (defScope st) s.heap.objs.size f cdv)) → A.guards = some [] → ∃ ts, ASs (Bs.nil ⟨w, mg⟩) (cxOf (L2.CX P w) P w K mg base N qual (defScope st) f cdv A outer s H E).nox (defBody st) ts b)
    (h : ∀ ds C P, ds.length = n → asp ds C P → aBody N.length b ds C P) : Cal P w K mg base (k + 1) y n asp := by
  subst hn
  exact ⟨f, fd, ps, fnA F S hbody h, hm, F.kp, hb⟩
structure AMt (B : Bs) (X : Cx) (id : String) (r : V → List V → Hp → VK → Prop) (a : D → ASp) : Prop where
  op : MtR X id r
  sim : SimRM B X.K r a
def isTy (T : String) (C : AH) (d : D) : Bool := match d with
  | .str _ => T == "str"
  | .lst _ => T == "list"
  | .scr _ => T == "list"
  | .dk _ => T == "dict"
  | .ce p => (match C p with | some (.lst _) => T == "list" | some (.dk _) => T == "dict" | _ => false)
  | _ => false
theorem isTy_ok {F : Hp} {C : AH} {R H : Hp} {v : V} {d : D} {T : String} (hS : Sat B K F C R H) (r : Rep K F v d) (h : isTy T C d = true) : tyV K T v H := by
  cases r with
  | str x => simpa [isTy, tyV] using h
  | lst e q => exact .inl ⟨by simpa [isTy] using h, _, SqL.of (hS.ex _ _ e)⟩
  | scr e => exact .inl ⟨by simpa [isTy] using h, _, hS.ex.l e⟩
  | dk e q => exact .inr (.inr (.inl ⟨by simpa [isTy] using h, .inl ⟨_, hS.ex _ _ e⟩⟩))
  | ce p =>
    simp only [isTy] at h
    split at h
    · rename_i e
      obtain ⟨_, o, h1, h2⟩ := hS.cell p _ e
      cases h2; exact .inl ⟨by simpa using h, _, SqL.of h1⟩
    · rename_i e
      obtain ⟨_, o, h1, h2⟩ := hS.cell p _ e
      cases h2; exact .inr (.inr (.inl ⟨by simpa using h, .inl ⟨_, h1⟩⟩))
    · cases h
  | _ => cases h
def aMeth (T : String) (m : D → ASp) (o : AE') (a : AA') : AE' := fun s C P => o s C fun x C1 => isTy T C1 x = true ∧ a s C1 fun ds C2 => m x ds C2 P
def aMeth0 (T : String) (m : D → ASp) (o : AE') : AE' := fun s C P => o s C fun x C1 => isTy T C1 x = true ∧ m x [] C1 P
section
variable {o e : Expr} {es : List Expr} {n : Nat} {to : TE} {t : TA} {ao : AE'} {a : AA'} {T id : String} {name : Str} {r : V → List V → Hp → VK → Prop} {ar : D → ASp} {apos cpos : Pos}
theorem ae_meth (pa : PlainAttrs T) (slot : Slot T name id) (hty : typeOf (.builtin id) = pure (.type "method_descriptor")) (hm : AMt B X id r ar) (ho : AE B X o to ao) (ha : AA B X (e :: es) n t a)
    (hbase : attributeBase o name X.env (eval o X.env) = eval o X.env := by rfl)
    (hfew : ((backTo cpos (starEach (e :: es) X.env)).all (fun x => !x.1) && (backToKw cpos (keywordEach [] X.env)).all (fun x => x.1.isSome)
      && decide ((e :: es).length + ([] : List Keyword).length + (if ([] : List Keyword).isEmpty then 0 else 1) < 30)) = true := by rfl)
    (hline : (apos.endLine == cpos.line) = true := by rfl) (hs : starEach (e :: es) X.env = (false, eval e X.env) :: starEach es X.env := by rfl) (hplain : (backTo cpos (starEach es X.env)).any (·.1) = false := by rfl) (hK : X.K = K := by rfl) :
    AE B X (.Call (.Attribute o name apos) (e :: es) [] cpos) (tBM K T r to t) (aMeth T ar ao a) := by
  subst hK
  exact ⟨pe_bm pa slot hty hm.op ho.pe ha.pa hbase hfew hline hs hplain, by
  intro σ s F C R H Q P hs hS h0 k
  refine ho.sim σ s F C R H _ _ hs hS h0 fun x v F1 C1 H1 e1 S1 r1 h1 => ⟨isTy_ok S1 r1 h1.1, ?_⟩
  refine ha.sim σ s F1 C1 R H1 _ _ (hs.mono e1) S1 h1.2 fun ds vs F2 C2 H2 e2 S2 r2 hl h2 => ?_
  exact hm.sim v x vs ds F2 C2 R H2 Q P S2 (r1.mono e2) r2 h2 fun d u F3 C3 H3 e3 S3 r3 h3 => k d u F3 C3 H3 ((e1.trans e2).trans e3) S3 r3 h3⟩
end
theorem cellL {F : Hp} {C : AH} {R H : Hp} {p : Addr} {ds : List D} (hS : Sat B K F C R H) (e : C p = some (.lst ds)) : ∃ xs, H p = some (.lst xs) ∧ RepL K F xs ds := by
  obtain ⟨_, o, h1, h2⟩ := hS.cell p _ e
  cases h2
  exact ⟨_, h1, by assumption⟩
def aAppend : D → ASp := fun x ds C P => match x, ds with
  | .ce p, [d] => (match C p with | some (.lst us) => us.length < sizeLine ∧ P .non (put C p (.lst (us ++ [d]))) | _ => False)
  | _, _ => False
theorem am_append : AMt B X "list.append" rAppend aAppend := ⟨fun pins s σ H x xs v us Q I r1 r2 h => mt_append pins s σ H x xs v us Q I r1 r2 h, by
  intro v d vs ds F C R H Q P hS r1 r2 h k
  unfold aAppend at h
  split at h
  · cases r1
    cases r2 with
    | cons r2 r3 =>
      cases r3
      split at h
      · rename_i e
        obtain ⟨xs, h1, h2⟩ := cellL hS e
        exact ⟨_, xs, _, rfl, rfl, h1, by rw [h2.length]; exact h.1, k _ _ F _ _ (Ex.refl F) (hS.mutC e (.lst (h2.append (.cons r2 .nil)))) .non h.2⟩
      · exact h.elim
  · exact h.elim⟩
theorem walk_l {F : Hp} {a : Addr} {ds : List D} {hold : AH → Prop} (h : ∀ F' C' R' H', Ex F F' → Sat B K F' C' R' H' → hold C' → ∃ xs, SqL K H' a xs ∧ RepL K F' xs ds) : Walks B K F ds hold (Itl K a) := by
  refine ⟨fun F' C' R' H' e S hc => ?_, fun F' C' R' H' i e S hc hi => ?_, fun F' C' R' H' i x H'' e S hc hi y => ?_⟩
  · obtain ⟨xs, h1, h2⟩ := h F' C' R' H' e S hc
    exact ⟨xs, h1, by rw [h2.length]; exact Nat.le_refl _⟩
  · obtain ⟨xs, h1, h2⟩ := h F' C' R' H' e S hc
    exact ⟨xs, xs[i]'(by rw [h2.length]; exact hi), h1, by simp⟩
  · obtain ⟨xs, h1, h2⟩ := h F' C' R' H' e S hc
    obtain ⟨e1, y⟩ := y
    subst e1
    obtain ⟨d, h3, h4⟩ := h2.get (y xs h1)
    exact ⟨d, F', h3, Ex.refl F', S, h4⟩
theorem asL_later {F F' : Hp} {C C' : AH} {R R' H H' : Hp} {v : V} {d : D} {ds : List D} (hS : Sat B K F C R H) (r : Rep K F v d) (h : asLr C d = some ds) (e : Ex F F') (S' : Sat B K F' C' R' H') (hc : asLr C' d = some ds) : ∀ a, v = .ref a → ∃ xs, SqL K H' a xs ∧ RepL K F' xs ds := by
  intro a ea
  obtain ⟨b, xs, e1, h1, h2⟩ := asLr_ok S' (r.mono e) hc
  rw [ea] at e1
  cases e1
  exact ⟨xs, h1, h2⟩
/-- for x in a list -/
def aIL (a : AE') : AI' := fun s C P => a s C fun x C1 => match asLr C1 x with | some ds => P ds (fun C' => asLr C' x = some ds) C1 | none => False
theorem ai_list {tg e : Expr} {te : TE} {a : AE'} (h : AE B X e te a) (hK : X.K = K := by rfl) : AI B X tg e (iList K te) (aIL a) := by
  subst hK
  exact ⟨pi_list h.pe, by
  intro σ s F C R H Q P hs hS h0 k
  refine h.sim σ s F C R H _ _ hs hS h0 fun x v F1 C1 H1 e1 S1 r1 h1 => ?_
  split at h1
  · rename_i ds q
    obtain ⟨b, xs, e2, h2, h3⟩ := asLr_ok S1 r1 q
    exact ⟨b, e2, ⟨xs, h2⟩, k ds _ _ F1 C1 H1 e1 S1 (walk_l fun F' C' R' H' e' S' hc => asL_later S1 r1 q e' S' hc b e2) h1⟩
  · exact h1.elim⟩
/-- for x in a tuple -/
def aIT (a : AE') : AI' := fun s C P => a s C fun x C1 => match asT x with | some ds => P ds (fun _ => True) C1 | none => False
theorem ai_tup {tg e : Expr} {te : TE} {a : AE'} (h : AE B X e te a) (hK : X.K = K := by rfl) : AI B X tg e (iTup K te) (aIT a) := by
  subst hK
  exact ⟨pi_tup h.pe, by
  intro σ s F C R H Q P hs hS h0 k
  refine h.sim σ s F C R H _ _ hs hS h0 fun x v F1 C1 H1 e1 S1 r1 h1 => ?_
  split at h1
  · rename_i ds q
    obtain ⟨b, xs, e2, h2, h3⟩ := asT_ok S1 r1 q
    refine ⟨b, e2, ⟨xs, SqT.of h2⟩, k ds _ _ F1 C1 H1 e1 S1 ⟨fun F' C' R' H' e S _ => ?_, fun F' C' R' H' i e S _ hi => ?_, fun F' C' R' H' i x H'' e S _ hi y => ?_⟩ h1⟩
    · obtain ⟨b', xs', e2', h2', h3'⟩ := asT_ok S (r1.mono e) q
      rw [e2] at e2'; cases e2'
      exact ⟨xs', SqT.of h2', by rw [h3'.length]; exact Nat.le_refl _⟩
    · obtain ⟨b', xs', e2', h2', h3'⟩ := asT_ok S (r1.mono e) q
      rw [e2] at e2'; cases e2'
      exact ⟨xs', xs'[i]'(by rw [h3'.length]; exact hi), SqT.of h2', by simp⟩
    · obtain ⟨b', xs', e2', h2', h3'⟩ := asT_ok S (r1.mono e) q
      rw [e2] at e2'; cases e2'
      obtain ⟨e3, y⟩ := y
      subst e3
      obtain ⟨d, h4, h5⟩ := h3'.get (y xs' (SqT.of h2'))
      exact ⟨d, F', h4, Ex.refl F', S, h5⟩
  · exact h1.elim⟩
def rangeD (lo : Int) (n : Nat) : List D := (List.range n).map fun (i : Nat) => D.int (lo + i)
theorem rangeD_get {lo : Int} {n i : Nat} (h : i < n) : (rangeD lo n)[i]? = some (.int (lo + i)) := by
  unfold rangeD
  rw [List.getElem?_map, List.getElem?_range h]
  rfl
theorem rangeD_len (lo : Int) (n : Nat) : (rangeD lo n).length = n := by
  unfold rangeD
  rw [List.length_map, List.length_range]
theorem walk_r {F : Hp} (lo : Int) (n : Nat) : Walks B K F (rangeD lo n) (fun _ => True) (Itr lo n) := by
  refine ⟨fun F' C' R' H' e S _ => ?_, fun F' C' R' H' i e S _ hi => ?_, fun F' C' R' H' i x H'' e S _ hi y => ?_⟩
  · rw [rangeD_len]; exact Nat.le_refl _
  · rw [rangeD_len] at hi; exact hi
  · rw [rangeD_len] at hi
    obtain ⟨e1, y⟩ := y
    subst e1; subst y
    exact ⟨_, F', rangeD_get hi, Ex.refl F', S, .int _⟩
def aIR1 (a : AA') : AI' := fun s C P => a s C fun ds C1 => match ds with | [.int j] => -(2 ^ 62) ≤ j ∧ j < 2 ^ 62 ∧ P (rangeD 0 j.toNat) (fun _ => True) C1 | _ => False
def aIR2 (a : AA') : AI' := fun s C P => a s C fun ds C1 => match ds with | [.int i, .int j] => (-(2 ^ 62) ≤ i ∧ i < 2 ^ 62 ∧ -(2 ^ 62) ≤ j ∧ j < 2 ^ 62) ∧ P (rangeD i (j - i).toNat) (fun _ => True) C1 | _ => False
theorem ai_range1 {tg e : Expr} {n : Nat} {ta : TA} {a : AA'} {p : Pos} (hm : X.mg "range" = none) (h : AA B X [e] n ta a) (hg : Gl X "range" := by rfl) (hs : starEach [e] X.env = [(false, eval e X.env)] := by rfl) : AI B X tg (.Call (.Name "range" p) [e] [] pos) (iRng1 ta) (aIR1 a) := ⟨pi_range1 hg hm h.pa hs, by
  intro σ s F C R H Q P hs hS h0 k
  refine h.sim σ s F C R H _ _ hs hS h0 fun ds vs F1 C1 H1 e1 S1 r1 hl h1 => ?_
  split at h1
  · cases r1 with | cons r1 r2 => cases r2; cases r1; exact ⟨_, rfl, h1.1, h1.2.1, k _ _ _ F1 C1 H1 e1 S1 (walk_r 0 _) h1.2.2⟩
  · exact h1.elim⟩
/-- a text, sign by sign -/
def signs (z : Str) : List D := z.cps.toList.map fun c => D.str ⟨#[c]⟩
def aIS (a : AE') : AI' := fun s C P => a s C fun x C1 => match x with | .str z => P (signs z) (fun _ => True) C1 | _ => False
theorem ai_str {tg e : Expr} {te : TE} {a : AE'} (h : AE B X e te a) : AI B X tg e (iStr te) (aIS a) := ⟨pi_str h.pe, by
  intro σ s F C R H Q P hs hS h0 k
  refine h.sim σ s F C R H _ _ hs hS h0 fun x v F1 C1 H1 e1 S1 r1 h1 => ?_
  split at h1
  · rename_i z
    cases r1
    refine ⟨z, rfl, k _ _ _ F1 C1 H1 e1 S1 ⟨fun F' C' R' H' e S _ => ?_, fun F' C' R' H' i e S _ hi => ?_, fun F' C' R' H' i x H'' e S _ hi y => ?_⟩ h1⟩
    · unfold signs; rw [List.length_map, Array.length_toList]; exact Nat.le_refl _
    · unfold signs at hi; rw [List.length_map, Array.length_toList] at hi; exact hi
    · obtain ⟨e3, c, y1, y2⟩ := y
      subst e3; subst y2
      refine ⟨_, F', ?_, Ex.refl F', S, .str _⟩
      unfold signs
      rw [List.getElem?_map, Array.getElem?_toList, y1]
      rfl
  · exact h1.elim⟩
/-- enumerate of a list -/
def enumD (ds : List D) : List D := (List.range ds.length).map fun (i : Nat) => D.tup [.int i, ds.getD i .non]
def aIE (a : AA') : AI' := fun s C P => a s C fun us C1 => match us with | [x] => (match asLr C1 x with | some ds => P (enumD ds) (fun C' => asLr C' x = some ds) C1 | none => False) | _ => False
/-- zip of two lists -/
def zipD (xs ys : List D) : List D := (xs.zip ys).map fun p => D.tup [p.1, p.2]
def aIZ (a : AA') : AI' := fun s C P => a s C fun us C1 => match us with | [x, y] => (match asLr C1 x, asLr C1 y with | some ds, some es => P (zipD ds es) (fun C' => asLr C' x = some ds ∧ asLr C' y = some es) C1 | _, _ => False) | _ => False
end
end AL
namespace AL
open PySem PySem.Spec L2
variable {B : Bs}
section
variable {X : Cx} {pos : Pos} {K : PySem.W.Frag}
theorem EndsR.mono {F F' R : Hp} {E : AEnds} {D' : Ends} (h : EndsR B K F R E D') (e : Ex F F') : EndsR B K F' R E D' :=
  ⟨fun s σ G C H e1 hs S z => h.nx s σ G C H (e.trans e1) hs S z, fun d v G C H e1 r S z => h.rt d v G C H (e.trans e1) r S z, fun s σ G C H e1 hs S z => h.bk s σ G C H (e.trans e1) hs S z, fun s σ G C H e1 hs S z => h.ct s σ G C H (e.trans e1) hs S z⟩
def aGName (i : Nat) : AG' := fun d s C P => P (s.set i (some d)) C
theorem wipe_get (σ : L2.St) (i : Nat) : ∀ vs : List Nat, (L2.wipe σ vs)[i]? = if i ∈ vs then (if i < σ.length then some none else none) else σ[i]?
  | [] => by simp [L2.wipe]
  | v :: vs => by
    unfold L2.wipe
    by_cases h : i = v
    · subst h
      rw [if_pos List.mem_cons_self]
      by_cases hl : i < σ.length
      · rw [if_pos hl, List.getElem?_set_self (by rw [L2.wipe_length]; exact hl)]
      · rw [if_neg hl, List.getElem?_eq_none (by rw [List.length_set, L2.wipe_length]; omega)]
    · rw [List.getElem?_set_ne (Ne.symm h), wipe_get σ i vs]
      by_cases h2 : i ∈ vs
      · rw [if_pos h2, if_pos (List.mem_cons_of_mem _ h2)]
      · rw [if_neg h2, if_neg (by simp [h, h2])]
theorem wipe_set {σ : L2.St} {j : Nat} {x : Option V} {vs : List Nat} (h : j ∈ vs) : L2.wipe (σ.set j x) vs = L2.wipe σ vs := by
  apply List.ext_getElem?
  intro i
  rw [wipe_get, wipe_get, List.length_set]
  by_cases h2 : i ∈ vs
  · rw [if_pos h2, if_pos h2]
  · rw [if_neg h2, if_neg h2, List.getElem?_set_ne (fun z => h2 (by rw [← z]; exact h))]
theorem wipe_wipe (σ : L2.St) (vs : List Nat) : L2.wipe (L2.wipe σ vs) vs = L2.wipe σ vs := by
  apply List.ext_getElem?
  intro i
  rw [wipe_get, L2.wipe_length]
  by_cases h2 : i ∈ vs
  · rw [if_pos h2, wipe_get, if_pos h2]
  · rw [if_neg h2]
theorem ag_name (i : Nat) {vs : List Nat} {x : Str} (hN : X.N.Nodup) (hi : X.N[i]? = some x := by rfl) (hx : Loc X.env.scope x := by exact Or.inl rfl) (hv : i ∈ vs := by decide) (hf : X.fn x = true ∨ X.env.scope.names.lookup x = some .local := by first | exact .inl rfl | exact .inr rfl) : AG B X (.Name x pos) vs (gName i) (aGName i) :=
  ⟨pg_name hN hi hx hf, fun v d σ s F C R H Q P hs hS r h k => k _ _ F C H (Ex.refl F) (hs.set r i) hS h, fun x σ H Q Q' h k => k _ _ (wipe_set hv) h⟩
abbrev AGs' := List D → ASt → AH → (ASt → AH → Prop) → Prop
def aGNil : AGs' := fun ds s C P => match ds with | [] => P s C | _ => False
def aGCons (g : AG') (r : AGs') : AGs' := fun ds s C P => match ds with | d :: ds => g d s C fun s' C' => r ds s' C' P | [] => False
def aGTup (n : Nat) (g : AGs') : AG' := fun d s C P => match d with | .tup ds => ds.length = n ∧ g ds s C P | _ => False
/-- xs[i] = .., a list -/
def aGSet (o i : AE') : AG' := fun d s C P => o s C fun x C1 => i s C1 fun y C2 => match x, y with
  | .ce p, .int j => (match C2 p with | some (.lst us) => (match ixN us.length j with | some k => P s (put C2 p (.lst (us.set k d))) | none => False) | _ => False)
  | _, _ => False
theorem sim_set {to ti : TE} {ao ai : AE'} (ho : SimE B K to ao) (hi : SimE B K ti ai) : SimG B K (gSub to ti rSetL) (aGSet ao ai) := by
  intro v d σ s F C R H Q P hs hS r h k
  refine ho σ s F C R H _ _ hs hS h fun x w F1 C1 H1 e1 S1 r1 h1 => ?_
  refine hi σ s F1 C1 R H1 _ _ (hs.mono e1) S1 h1 fun y w2 F2 C2 H2 e2 S2 r2 h2 => ?_
  split at h2
  · cases r1
    cases r2
    split at h2
    · rename_i us e
      split at h2
      · rename_i j q
        obtain ⟨xs, h3, h4⟩ := cellL S2 e
        exact ⟨_, xs, _, j, rfl, rfl, h3, by rw [h4.length]; exact q, k s σ F2 _ _ (e1.trans e2) (hs.mono (e1.trans e2)) (S2.mutC e (.lst (h4.set (r.mono (e1.trans e2)) j))) h2⟩
      · exact h2.elim
    · exact h2.elim
  · exact h2.elim
def aNext : AS' := fun E s C => E.nx s C
def aSeq (a b : AS') : AS' := fun E s C => a { E with nx := b E } s C
theorem sim_next : SimS B K tNext aNext := fun D' E σ s F C R H hE hs hS h => hE.nx s σ F C H (Ex.refl F) hs hS h
theorem sim_seq {t u : TS} {a b : AS'} (ha : SimS B K t a) (hb : SimS B K u b) : SimS B K (tSeq t u) (aSeq a b) := fun D' E σ s F C R H hE hs hS h =>
  ha { D' with nx := u D' } { E with nx := b E } σ s F C R H ⟨fun s σ F' C' H' e hs S z => hb D' E σ s F' C' R H' (hE.mono e) hs S z, hE.rt, hE.bk, hE.ct⟩ hs hS h
theorem ass_nil : ASs B X [] tNext aNext := ⟨pss_nil, sim_next⟩
theorem ass_one {st : Stmt} {t : TS} {a : AS'} (h : AS B X st t a) : ASs B X [st] t a := ⟨pss_one h.ps, h.sim⟩
theorem ass_cons {st : Stmt} {rest : List Stmt} {t u : TS} {a b : AS'} (h : AS B X st t a) (g : ASs B X rest u b) : ASs B X (st :: rest) (tSeq t u) (aSeq a b) := ⟨pss_cons h.ps g.ps, sim_seq h.sim g.sim⟩
/-- a cell that is changed no more, in a slot -/
def aFrz (i : Nat) (a : AS') : AS' := fun E s C => match s[i]? with
  | some (some (.ce p)) => (match C p with | some (.lst ds) => a E (s.set i (some (.lst ds))) (del C p) | some (.dk es) => a E (s.set i (some (.dk es))) (del C p) | _ => False)
  | _ => False
theorem sim_frz {t : TS} {a : AS'} (i : Nat) (h : SimS B K t a) : SimS B K t (aFrz i a) := fun D' E σ s F C R H hE hs hS h0 => by
  unfold aFrz at h0
  split at h0
  · rename_i p e
    split at h0
    · rename_i ds e2
      obtain ⟨hF, o, h1, h2⟩ := hS.cell p _ e2
      have eN := Ex.new (o := o) hF
      refine h D' E σ _ (upd F p o) _ R H (hE.mono eN) ((hs.mono eN).reset e fun v r => ?_) (hS.freeze e2 h1) h0
      cases r
      cases h2 with
      | lst q => exact .lst upd_same (q.mono eN)
    · rename_i ds e2
      obtain ⟨hF, o, h1, h2⟩ := hS.cell p _ e2
      have eN := Ex.new (o := o) hF
      refine h D' E σ _ (upd F p o) _ R H (hE.mono eN) ((hs.mono eN).reset e fun v r => ?_) (hS.freeze e2 h1) h0
      cases r
      cases h2 with
      | dk q => exact .dk upd_same (q.mono eN)
    · exact h0.elim
  · exact h0.elim
theorem ass_frz {sts : List Stmt} {t : TS} {a : AS'} (i : Nat) (h : ASs B X sts t a) : ASs B X sts t (aFrz i a) := ⟨h.ps, sim_frz i h.sim⟩
def aAsg (e : AE') (g : AG') : AS' := fun E s C => e s C fun x C1 => g x s C1 E.nx
theorem sim_asg {te : TE} {g : TG} {a : AE'} {b : AG'} (ha : SimE B K te a) (hb : SimG B K g b) : SimS B K (tAsg te g) (aAsg a b) := fun D' E σ s F C R H hE hs hS h => by
  refine ha σ s F C R H _ _ hs hS h fun x v F1 C1 H1 e1 S1 r1 h1 => ?_
  exact hb v x σ s F1 C1 R H1 _ _ (hs.mono e1) S1 r1 h1 fun s2 σ2 F2 C2 H2 e2 hs2 S2 h2 => hE.nx s2 σ2 F2 C2 H2 (e1.trans e2) hs2 S2 h2
section
variable {e : Expr} {te : TE} {a : AE'}
theorem sim_name (i : Nat) : SimG B K (gName i) (aGName i) := fun v d σ s F C R H Q P hs hS r h k => k _ _ F C H (Ex.refl F) (hs.set r i) hS h
theorem as_set (i : Nat) {x : Str} {pos' : Pos} (hN : X.N.Nodup) (h : AE B X e te a) (hi : X.N[i]? = some x := by rfl) (hx : Loc X.env.scope x := by exact Or.inl rfl) (hs : swapsWith e (some (.Name x pos')) pos.line X.env = pure false := by rfl) (hf : X.fn x = true ∨ X.env.scope.names.lookup x = some .local := by first | exact .inl rfl | exact .inr rfl) :
    AS B X (.Assign [.Name x pos'] e pos) (tAsg te (gName i)) (aAsg a (aGName i)) := ⟨ps_set hN hi hx h.pe hs hf, sim_asg h.sim (sim_name i)⟩
/-- xs[i] = e -/
theorem as_setL {o i : Expr} {to ti : TE} {ao ai : AE'} {p2 : Pos} (h : AE B X e te a) (ho : AE B X o to ao) (hi : AE B X i ti ai) (hs : swapsWithSole [.Subscript o i p2] e pos.line X.env = pure false := by rfl) (hw : swappedStores [.Subscript o i p2] e X.env = pure none := by rfl)
    (h1 : (assignEach [.Subscript o i p2] X.env).map (·.2) = [assign (.Subscript o i p2) X.env] := by rfl)
    (ha : ∀ v, assign (.Subscript o i p2) X.env v = (do
      let ov ← holding [v] (eval o X.env)
      let iv ← holding [v, ov] (eval i X.env)
      standAt p2
      holding [v, ov, iv] (setItem ov iv v)
      release [v, ov, iv] []) := by intro _; rfl) : AS B X (.Assign [.Subscript o i p2] e pos) (tAsg te (gSub to ti rSetL)) (aAsg a (aGSet ao ai)) :=
  ⟨ps_asg h.pe (pg_sub ho.pe hi.pe set_list ha) hs hw h1, sim_asg h.sim (sim_set ho.sim hi.sim)⟩
def aDrop (a : AE') : AS' := fun E s C => a s C fun _ C1 => E.nx s C1
theorem as_expr (h : AE B X e te a) (hs : swapsWith e none pos.line X.env = pure false := by rfl) : AS B X (.Expr e pos) (tDrop te) (aDrop a) := ⟨ps_expr h.pe hs, fun D' E σ s F C R H hE hs hS h0 => by
  exact h.sim σ s F C R H _ _ hs hS h0 fun x v F1 C1 H1 e1 S1 r1 h1 => hE.nx s σ F1 C1 H1 e1 (hs.mono e1) S1 h1⟩
def aRet (a : AE') : AS' := fun E s C => a s C E.rt
theorem as_ret (h : AE B X e te a) : AS B X (.Return (some e) pos) (tRet te) (aRet a) := ⟨ps_ret h.pe, fun D' E σ s F C R H hE hs hS h0 => by
  exact h.sim σ s F C R H _ _ hs hS h0 fun x v F1 C1 H1 e1 S1 r1 h1 => hE.rt x v F1 C1 H1 e1 r1 S1 h1⟩
end
def aRetN : AS' := fun E _ C => E.rt .non C
def aIfS (c : AT') (a b : AS') : AS' := fun E s C => c s C fun t C1 => if t = true then a E s C1 else b E s C1
theorem as_if {c : Expr} {p q : List Stmt} {tc : TT} {t u : TS} {ac : AT'} {a b : AS'} (hc : AT B X c tc ac) (ha : ASs B X p t a) (hb : ASs B X q u b) : AS B X (.If c p q pos) (tIfS tc t u) (aIfS ac a b) := ⟨ps_if hc.pt ha.ps hb.ps, fun D' E σ s F C R H hE hs hS h0 => by
  refine hc.sim σ s F C R H _ _ hs hS h0 fun t F1 C1 H1 e1 S1 h1 => ?_
  cases t with
  | true => exact ha.sim D' E σ s F1 C1 R H1 (hE.mono e1) (hs.mono e1) S1 h1
  | false => exact hb.sim D' E σ s F1 C1 R H1 (hE.mono e1) (hs.mono e1) S1 h1⟩
def aFor (w : AI') (g : AG') (b : AS') : AS' := fun E s C => w s C fun items hold C1 => ∃ W : Nat → ASt → AH → Prop, W 0 s C1 ∧ (∀ i s' C', i ≤ items.length → W i s' C' → hold C') ∧
  (∀ i d s' C', items[i]? = some d → W i s' C' → g d s' C' fun s2 C2 => b { E with nx := W (i + 1), ct := W (i + 1), bk := E.nx } s2 C2) ∧ ∀ s' C', W items.length s' C' → E.nx s' C'
theorem sim_for {wi : TI} {g : TG} {tb : TS} {aw : AI'} {ag : AG'} {ab : AS'} (hi : SimI B K wi aw) (hg : SimG B K g ag) (hb : SimS B K tb ab) : SimS B K (tFor wi g tb) (aFor aw ag ab) := fun D' E σ s F C R H hE hs hS h => by
  refine hi σ s F C R H _ _ hs hS h fun items hold J F1 C1 H1 e1 S1 Wk h1 => ?_
  obtain ⟨W, h0, hh, hstep, hend⟩ := h1
  refine ⟨fun i m σ' H' => m = items.length - i ∧ i ≤ items.length ∧ ∃ s' F' C', Ex F1 F' ∧ Slo K F' s' σ' ∧ Sat B K F' C' R H' ∧ W i s' C', ⟨items.length, by simp, Nat.zero_le _, s, F1, C1, Ex.refl F1, hs.mono e1, S1, h0⟩, ?_⟩
  rintro i m σ' H' ⟨rfl, hi, s', F', C', e', hs', S', w⟩
  by_cases hlt : i < items.length
  · refine .inr ⟨Wk.go F' C' R H' i e' S' (hh i s' C' hi w) hlt, fun σ2 H2 => ∃ s2 F2 C2, Ex F1 F2 ∧ Slo K F2 s2 σ2 ∧ Sat B K F2 C2 R H2 ∧ W (i + 1) s2 C2, fun σ2 H2 z => ⟨items.length - (i + 1), by omega, rfl, hlt, z⟩, fun x H'' y => ?_⟩
    obtain ⟨d, F'', hd, e'', S'', r⟩ := Wk.yld F' C' R H' i x H'' e' S' (hh i s' C' hi w) hlt y
    refine hg x d σ' s' F'' C' R H'' _ _ (hs'.mono e'') S'' r (hstep i d s' C' hd w) fun s2 σ2 F2 C2 H2 e2 hs2 S2 h2 => ?_
    have eA : Ex F1 F2 := (e'.trans e'').trans e2
    refine hb _ { E with nx := W (i + 1), ct := W (i + 1), bk := E.nx } σ2 s2 F2 C2 R H2 ⟨fun s3 σ3 F3 C3 H3 e3 hs3 S3 z => ⟨s3, F3, C3, eA.trans e3, hs3, S3, z⟩, fun d v F3 C3 H3 e3 r3 S3 z => hE.rt d v F3 C3 H3 ((e1.trans eA).trans e3) r3 S3 z,
      fun s3 σ3 F3 C3 H3 e3 hs3 S3 z => hE.nx s3 σ3 F3 C3 H3 ((e1.trans eA).trans e3) hs3 S3 z, fun s3 σ3 F3 C3 H3 e3 hs3 S3 z => ⟨s3, F3, C3, eA.trans e3, hs3, S3, z⟩⟩ hs2 S2 h2
  · have e : i = items.length := by omega
    subst e
    exact .inl ⟨Wk.stop F' C' R H' e' S' (hh _ s' C' (Nat.le_refl _) w), hE.nx s' σ' F' C' H' (e1.trans e') hs' S' (hend s' C' w)⟩
theorem as_for {tg iter : Expr} {body : List Stmt} {wi : TI} {vs : List Nat} {g : TG} {tb : TS} {aw : AI'} {ag : AG'} {ab : AS'} (hi : AI B X tg iter wi aw) (hg : AG B X tg vs g ag) (hb : ASs B X body tb ab) (hp : PassesOwn (model X.prog X.w) X.A X.env X.xe := by exact PassesOwn.never) (hc : X.calm = true := by rfl)
    (hs : ∀ x, foldedSetIterable iter X.env x = pure x := by intro _; rfl) : AS B X (.For tg iter body [] pos) (tFor wi g tb) (aFor aw ag ab) := ⟨ps_for hp hc hi.pi hg.pg hb.ps hs, sim_for hi.sim hg.sim hb.sim⟩
def aWhile (c : AT') (b : AS') : AS' := fun E s C => ∃ W : Nat → ASt → AH → Prop, (∃ m, W m s C) ∧ ∀ m s' C', W m s' C' → c s' C' fun t C1 => if t = true then b { E with nx := fun s2 C2 => ∃ m', m' < m ∧ W m' s2 C2, ct := fun s2 C2 => ∃ m', m' < m ∧ W m' s2 C2, bk := E.nx } s' C1 else E.nx s' C1
theorem sim_while {tc : TT} {tb : TS} {ac : AT'} {ab : AS'} (hc : SimT B K tc ac) (hb : SimS B K tb ab) : SimS B K (tWhile tc tb) (aWhile ac ab) := fun D' E σ s F C R H hE hs hS h => by
  obtain ⟨W, ⟨m0, h0⟩, hstep⟩ := h
  refine ⟨fun m σ' H' => ∃ s' F' C', Ex F F' ∧ Slo K F' s' σ' ∧ Sat B K F' C' R H' ∧ W m s' C', ⟨m0, s, F, C, Ex.refl F, hs, hS, h0⟩, ?_⟩
  rintro m σ' H' ⟨s', F', C', e', hs', S', w⟩
  refine hc σ' s' F' C' R H' _ _ hs' S' (hstep m s' C' w) fun t F1 C1 H1 e1 S1 h1 => ?_
  have eA : Ex F F1 := e'.trans e1
  cases t with
  | true =>
    refine ⟨fun σ2 H2 => ∃ m', m' < m ∧ ∃ s2 F2 C2, Ex F F2 ∧ Slo K F2 s2 σ2 ∧ Sat B K F2 C2 R H2 ∧ W m' s2 C2, fun σ2 H2 z => z, ?_⟩
    refine hb _ { E with nx := fun s2 C2 => ∃ m', m' < m ∧ W m' s2 C2, ct := fun s2 C2 => ∃ m', m' < m ∧ W m' s2 C2, bk := E.nx } σ' s' F1 C1 R H1 ⟨fun s3 σ3 F3 C3 H3 e3 hs3 S3 z => ?_, fun d v F3 C3 H3 e3 r3 S3 z => hE.rt d v F3 C3 H3 (eA.trans e3) r3 S3 z,
      fun s3 σ3 F3 C3 H3 e3 hs3 S3 z => hE.nx s3 σ3 F3 C3 H3 (eA.trans e3) hs3 S3 z, fun s3 σ3 F3 C3 H3 e3 hs3 S3 z => ?_⟩ (hs'.mono e1) S1 h1
    · obtain ⟨m', hm, z⟩ := z
      exact ⟨m', hm, s3, F3, C3, eA.trans e3, hs3, S3, z⟩
    · obtain ⟨m', hm, z⟩ := z
      exact ⟨m', hm, s3, F3, C3, eA.trans e3, hs3, S3, z⟩
  | false => exact hE.nx s' σ' F1 C1 H1 eA (hs'.mono e1) S1 h1
theorem as_while {c : Expr} {body : List Stmt} {tc : TT} {tb : TS} {ac : AT'} {ab : AS'} (hc : AT B X c tc ac) (hb : ASs B X body tb ab) (hp : PassesOwn (model X.prog X.w) X.A X.env X.xe := by exact PassesOwn.never) : AS B X (.While c body [] pos) (tWhile tc tb) (aWhile ac ab) := ⟨ps_while hp hc.pt hb.ps, sim_while hc.sim hb.sim⟩
def aYes : AT' := fun _ C P => P true C
theorem ats_nil : ATs B X [] tYes aYes := ⟨pts_nil, fun σ s F C R H Q P hs hS h k => k true F C H (Ex.refl F) hS h⟩
theorem ats_one {c : Expr} {t : TT} {a : AT'} (h : AT B X c t a) : ATs B X [c] t a := ⟨pts_one h.pt, h.sim⟩
/-- the list as it is made; fin: what becomes of it -/
def aLcW (w : AI') (g : AG') (t : AT') (e : AE') (vs : List Nat) (fin : List D → AH → Prop) : ASt → AH → Prop := fun s C => w s C fun items hold C1 => items.length ≤ sizeLine ∧ ∃ W : Nat → List D → AH → Prop, W 0 [] C1 ∧ (∀ i acc C', i ≤ items.length → W i acc C' → hold C') ∧
  (∀ i d acc C', items[i]? = some d → W i acc C' → g d (wipeA s vs) C' fun s2 C2 => t s2 C2 fun b C3 => if b = true then e s2 C3 fun y C4 => W (i + 1) (acc ++ [y]) C4 else W (i + 1) acc C3) ∧ ∀ acc C', W items.length acc C' → fin acc C'
def aLc (w : AI') (g : AG') (t : AT') (e : AE') (vs : List Nat) : AE' := fun s C P => aLcW w g t e vs (fun acc C' => P (.lst acc) C') s C
def aLcM (w : AI') (g : AG') (t : AT') (e : AE') (vs : List Nat) : AE' := fun s C P => aLcW w g t e vs (fun acc C' => ∀ p, C' p = none → P (.ce p) (put C' p (.lst acc))) s C
theorem lc_sim {wi : TI} {g : TG} {tt : TT} {te : TE} {vs : List Nat} {aw : AI'} {ag : AG'} {at' : AT'} {ae : AE'} {fin : List D → AH → Prop} (hi : SimI B K wi aw) (hg : SimG B K g ag) (hin : GIn vs g) (ht : SimT B K tt at') (he : SimE B K te ae)
    {σ : L2.St} {s : ASt} {F : Hp} {C : AH} {R H : Hp} {Q : VK} (hs : Slo K F s σ) (hS : Sat B K F C R H) (h : aLcW aw ag at' ae vs fin s C)
    (k : ∀ Dl acc accD F' C' H', Ex F F' → R Dl = none → Sat B K F' C' (upd R Dl (.lst acc)) H' → RepL K F' acc accD → fin accD C' → Q (.ref Dl) H') : tLc wi g tt te vs σ H Q := by
  refine hi σ s F C R H _ _ hs hS h fun items hold J F1 C1 H1 e1 S1 Wk h1 => ?_
  obtain ⟨hz, W, h0, hh, hstep, hend⟩ := h1
  intro Dl hD
  have hR := S1.freeR hD
  refine ⟨fun i m H' => m = items.length - i ∧ i ≤ items.length ∧ ∃ F' C' acc accD, Ex F1 F' ∧ Sat B K F' C' (upd R Dl (.lst acc)) H' ∧ RepL K F' acc accD ∧ accD.length ≤ i ∧ W i accD C',
    ⟨items.length, by simp, Nat.zero_le _, F1, C1, [], [], Ex.refl F1, S1.setR (S1.freeF hD) (S1.freeC hD) (S1.freeB hR) _, .nil, Nat.le_refl _, h0⟩, ?_⟩
  rintro i m H' ⟨rfl, hi, F', C', acc, accD, e', S', ra, hl, w⟩
  by_cases hlt : i < items.length
  · refine .inr ⟨Wk.go F' C' _ H' i e' S' (hh i accD C' hi w) hlt, fun H2 => ∃ F2 C2 acc accD, Ex F1 F2 ∧ Sat B K F2 C2 (upd R Dl (.lst acc)) H2 ∧ RepL K F2 acc accD ∧ accD.length ≤ i + 1 ∧ W (i + 1) accD C2, fun H2 z => ⟨items.length - (i + 1), by omega, rfl, hlt, z⟩, fun x H'' y => ?_⟩
    obtain ⟨d, F'', hd, e'', S'', r⟩ := Wk.yld F' C' _ H' i x H'' e' S' (hh i accD C' hi w) hlt y
    refine hin x _ H'' (fun σ2 H2 => tt σ2 H2 fun b H3 => if b = true then te σ2 H3 fun y H4 => ∃ acc, H4 Dl = some (.lst acc) ∧ acc.length < sizeLine ∧ ∃ F2 C2 acc2 accD, Ex F1 F2 ∧ Sat B K F2 C2 (upd R Dl (.lst acc2)) (upd H4 Dl (.lst (acc ++ [y]))) ∧ RepL K F2 acc2 accD ∧ accD.length ≤ i + 1 ∧ W (i + 1) accD C2
      else ∃ F2 C2 acc accD, Ex F1 F2 ∧ Sat B K F2 C2 (upd R Dl (.lst acc)) H3 ∧ RepL K F2 acc accD ∧ accD.length ≤ i + 1 ∧ W (i + 1) accD C2) _ ?_ fun σ2 H2 w2 q => ⟨w2.trans (wipe_wipe σ vs), q⟩
    refine hg x d _ (wipeA s vs) F'' C' _ H'' _ _ ((hs.mono ((e1.trans e').trans e'')).wipe vs) S'' r (hstep i d accD C' hd w) fun s2 σ2 F2 C2 H2 e2 hs2 S2 h2 => ?_
    refine ht σ2 s2 F2 C2 _ H2 _ _ hs2 S2 h2 fun b F3 C3 H3 e3 S3 h3 => ?_
    have eA : Ex F' F3 := (e''.trans e2).trans e3
    cases b with
    | true =>
      refine he σ2 s2 F3 C3 _ H3 _ _ (hs2.mono e3) S3 h3 fun y v F4 C4 H4 e4 S4 r4 h4 => ?_
      obtain ⟨f4, c4, d4⟩ := S4.priv Dl _ upd_same
      refine ⟨acc, d4, ?_, F4, C4, acc ++ [v], accD ++ [y], (e'.trans eA).trans e4, ?_, (ra.mono (eA.trans e4)).append (.cons r4 .nil), by rw [List.length_append]; exact Nat.succ_le_succ hl, h4⟩
      · rw [ra.length]; omega
      · have := S4.setR f4 c4 (S1.freeB hR) (.lst (acc ++ [v]))
        rw [upd_upd] at this
        exact this
    | false => exact ⟨F3, C3, acc, accD, e'.trans eA, S3, ra.mono eA, Nat.le_succ_of_le hl, h3⟩
  · have e : i = items.length := by omega
    subst e
    exact .inl ⟨Wk.stop F' C' _ H' e' S' (hh _ accD C' (Nat.le_refl _) w), k Dl acc accD F' C' H' (e1.trans e') hR S' ra (hend accD C' w)⟩
theorem sim_lc {wi : TI} {g : TG} {tt : TT} {te : TE} {vs : List Nat} {aw : AI'} {ag : AG'} {at' : AT'} {ae : AE'} (hi : SimI B K wi aw) (hg : SimG B K g ag) (hin : GIn vs g) (ht : SimT B K tt at') (he : SimE B K te ae) : SimE B K (tLc wi g tt te vs) (aLc aw ag at' ae vs) := fun σ s F C R H Q P hs hS h k => by
  refine lc_sim hi hg hin ht he hs hS h fun Dl acc accD F' C' H' e1 hR S r h1 => ?_
  have eN := Ex.new (o := .lst acc) (S.priv Dl _ upd_same).1
  exact k _ _ _ C' H' (e1.trans eN) (S.outF hR (hS.freeB hR)) (.lst upd_same (r.mono eN)) h1
theorem sim_lcM {wi : TI} {g : TG} {tt : TT} {te : TE} {vs : List Nat} {aw : AI'} {ag : AG'} {at' : AT'} {ae : AE'} (hi : SimI B K wi aw) (hg : SimG B K g ag) (hin : GIn vs g) (ht : SimT B K tt at') (he : SimE B K te ae) : SimE B K (tLc wi g tt te vs) (aLcM aw ag at' ae vs) := fun σ s F C R H Q P hs hS h k => by
  refine lc_sim hi hg hin ht he hs hS h fun Dl acc accD F' C' H' e1 hR S r h1 => ?_
  exact k _ _ F' _ H' e1 (S.outC hR (hS.freeB hR) (.lst r)) (.ce Dl) (h1 Dl (S.priv Dl _ upd_same).2.1)
section
variable {elt tg iter : Expr} {ifs : List Expr} {scope : Scope} {own : List (Str × Nat)} {wi : TI} {g : TG} {tt : TT} {te : TE} {aw : AI'} {ag : AG'} {at' : AT'} {ae : AE'}
theorem ae_lc (own : List (Str × Nat)) (hN : X.N.Nodup) (hi : AI B X tg iter wi aw) (ok : BlkOk X.N X.env.scope scope own)
    (hg : ∀ (s : Shared) (H : Hp) (C : Addr) (cl : List (Str × Addr)) (fp : List Addr), AG B (X.blk s H scope (compEnvC scope cl C X.env) fp) tg (own.map (·.2)) g ag) (ht : ∀ (s : Shared) (H : Hp) (C : Addr) (cl : List (Str × Addr)) (fp : List Addr), ATs B (X.blk s H scope (compEnvC scope cl C X.env) fp) ifs tt at')
    (he : ∀ (s : Shared) (H : Hp) (C : Addr) (cl : List (Str × Addr)) (fp : List Addr), AE B (X.blk s H scope (compEnvC scope cl C X.env) fp) elt te ae) (hc : X.calm = true := by rfl) (hs : ∀ x, foldedSetIterable iter X.env x = pure x := by intro _; rfl) :
    AE B X (.ListComp elt [⟨tg, iter, ifs, 0⟩] scope pos) (tLc wi g tt te (own.map (·.2))) (aLc aw ag at' ae (own.map (·.2))) :=
  ⟨pe_lc hc hN hi.pi ok (fun s H C cl fp => (hg s H C cl fp).pg) (fun s H C cl fp => (ht s H C cl fp).pts) (fun s H C cl fp => (he s H C cl fp).pe) hs,
    let G := hg X.s_0 (fun _ => none) 0 [] []
    sim_lc hi.sim G.sim G.inn (ht X.s_0 (fun _ => none) 0 [] []).sim (he X.s_0 (fun _ => none) 0 [] []).sim⟩
theorem as_setLcM (i : Nat) (own : List (Str × Nat)) {y : Str} {py spos : Pos} (hN : X.N.Nodup) (hi : AI B X tg iter wi aw) (hsw : swapsWith (.ListComp elt [⟨tg, iter, ifs, 0⟩] scope pos) (some (.Name y py)) spos.line X.env = pure true) (ok : BlkOk X.N X.env.scope scope own)
    (hg : ∀ (s : Shared) (H : Hp) (C : Addr) (cl : List (Str × Addr)) (fp : List Addr), AG B (X.blk s H scope (compEnvC scope cl C X.env) fp) tg (own.map (·.2)) g ag) (ht : ∀ (s : Shared) (H : Hp) (C : Addr) (cl : List (Str × Addr)) (fp : List Addr), ATs B (X.blk s H scope (compEnvC scope cl C X.env) fp) ifs tt at')
    (he : ∀ (s : Shared) (H : Hp) (C : Addr) (cl : List (Str × Addr)) (fp : List Addr), AE B (X.blk s H scope (compEnvC scope cl C X.env) fp) elt te ae) (hy : X.N[i]? = some y := by rfl) (hyl : X.env.scope.names.lookup y = some .local := by rfl) (hc : X.calm = true := by rfl) (hs : ∀ x, foldedSetIterable iter X.env x = pure x := by intro _; rfl) :
    AS B X (.Assign [.Name y py] (.ListComp elt [⟨tg, iter, ifs, 0⟩] scope pos) spos) (tAsg (tLc wi g tt te (own.map (·.2))) (gName i)) (aAsg (aLcM aw ag at' ae (own.map (·.2))) (aGName i)) :=
  ⟨ps_setLc hc hN hy hyl hsw hi.pi ok (fun s H C cl fp => (hg s H C cl fp).pg) (fun s H C cl fp => (ht s H C cl fp).pts) (fun s H C cl fp => (he s H C cl fp).pe) hs,
    let G := hg X.s_0 (fun _ => none) 0 [] []
    sim_asg (sim_lcM hi.sim G.sim G.inn (ht X.s_0 (fun _ => none) 0 [] []).sim (he X.s_0 (fun _ => none) 0 [] []).sim) (sim_name i)⟩
end
end
end AL
namespace AL
open PySem PySem.Spec L2
variable {B : Bs}
theorem law_sp {asp : ASp} {n : Nat} (h : ∀ ns : List Int, ns.length ≤ n → asp [.scr ns] (fun _ => none) (fun d _ => d = .bl true)) (w : Gd) (K : PySem.W.Frag) (H : Hp) (a : Addr) (ns : List Int) (hn : ns.length ≤ n) (hS : SqL K H a (ns.map V.int)) :
    spOf w K 1 asp [.ref a] H (fun v _ => v = .bl true) fun _ _ _ => False := by
  refine ⟨rfl, H, fun _ => none, fun _ => none, [.scr ns], fun d _ => d = .bl true, ⟨fun _ _ z => (by cases z), fun _ _ z => (by cases z), Ex.refl H, fun _ _ z => (by cases z), fun _ _ z => (by cases z)⟩, .cons (.scr hS) .nil, h ns hn, fun d v F' C' H' _ _ r e => ?_⟩
  subst e
  cases r
  rfl
end AL
namespace AL
open PySem L2
theorem atI_nat' {α : Type} {xs : List α} {i : Nat} {x : α} (h : xs[i]? = some x) : atI xs (i : Int) = some x := by
  have hi := (List.getElem?_eq_some_iff.mp h).1
  unfold atI ixN
  rw [if_pos (by omega), if_pos (by omega)]
  simpa using h
section
variable {a b : AS'} {nx : ASt → AH → Prop} {rt : D → AH → Prop} {bk ct : ASt → AH → Prop} {s : ASt} {C : AH} {e e1 e2 e3 : AE'} {t t1 t2 : AT'} {g : AG'} {P : D → AH → Prop} {PB : Bool → AH → Prop} {PA : List D → AH → Prop} {w : AI'} {aa : AA'}
theorem g_body' {n : Nat} {ds : List D} {s : ASt} (h0 : ds.map some ++ List.replicate (n - ds.length) none = s) (h : a ⟨fun _ C' => P .non C', P, fun _ _ => False, fun _ _ => False⟩ s C) : aBody n a ds C P := by
  subst h0
  exact h
theorem g_gname' {i : Nat} {d : D} {Q : ASt → AH → Prop} {s' : ASt} (h0 : s.set i (some d) = s') (h : Q s' C) : aGName i d s C Q := by
  subst h0
  exact h
theorem g_seq (h : a ⟨b ⟨nx, rt, bk, ct⟩, rt, bk, ct⟩ s C) : aSeq a b ⟨nx, rt, bk, ct⟩ s C := h
theorem g_next (h : nx s C) : aNext ⟨nx, rt, bk, ct⟩ s C := h
theorem g_asg (h : e s C fun x C1 => g x s C1 nx) : aAsg e g ⟨nx, rt, bk, ct⟩ s C := h
theorem g_drop (h : e s C fun _ C1 => nx s C1) : aDrop e ⟨nx, rt, bk, ct⟩ s C := h
theorem g_ret (h : e s C rt) : aRet e ⟨nx, rt, bk, ct⟩ s C := h
theorem g_retN (h : rt .non C) : aRetN ⟨nx, rt, bk, ct⟩ s C := h
theorem g_ifS (h : t s C fun k C1 => if k = true then a ⟨nx, rt, bk, ct⟩ s C1 else b ⟨nx, rt, bk, ct⟩ s C1) : aIfS t a b ⟨nx, rt, bk, ct⟩ s C := h
theorem g_ifF (ht : ∀ K : Bool → AH → Prop, K false C → t s C K) (h : b ⟨nx, rt, bk, ct⟩ s C) : aIfS t a b ⟨nx, rt, bk, ct⟩ s C := ht _ h
theorem g_ifT (ht : ∀ K : Bool → AH → Prop, K true C → t s C K) (h : a ⟨nx, rt, bk, ct⟩ s C) : aIfS t a b ⟨nx, rt, bk, ct⟩ s C := ht _ h
theorem g_ifJ (M : ASt → AH → Prop) (h : ∀ N : ASt → AH → Prop, (∀ s' C', M s' C' → N s' C') → aIfS t a b ⟨N, rt, bk, ct⟩ s C) (k : ∀ s' C', M s' C' → nx s' C') : aIfS t a b ⟨nx, rt, bk, ct⟩ s C := h nx k
theorem g_gtup {n : Nat} {ds : List D} {gs : AGs'} {Q : ASt → AH → Prop} (hn : ds.length = n) (h : gs ds s C Q) : aGTup n gs (.tup ds) s C Q := ⟨hn, h⟩
theorem g_gcons {d : D} {ds : List D} {gs : AGs'} {Q : ASt → AH → Prop} (h : g d s C fun s' C' => gs ds s' C' Q) : aGCons g gs (d :: ds) s C Q := h
theorem g_gnil {Q : ASt → AH → Prop} (h : Q s C) : aGNil [] s C Q := h
def kSet (p : Addr) (d : D) (s : ASt) (Q : ASt → AH → Prop) : D → AH → Prop := fun y C2 => match y with | .int j => (match C2 p with | some (.lst us) => (match ixN us.length j with | some k => Q s (put C2 p (.lst (us.set k d))) | none => False) | _ => False) | _ => False
/-- xs[i] = d, xs a name's cell -/
theorem g_gsetV {i : Nat} {d : D} {p : Addr} {Q : ASt → AH → Prop} (hi : s[i]? = some (some (.ce p))) (h : e2 s C (kSet p d s Q)) : aGSet (aVar i) e2 d s C Q := by
  unfold aGSet aVar
  rw [hi]
  refine (congrArg (e2 s C) ?_).mpr h
  funext y C2
  cases y <;> rfl
theorem g_kSet {j : Int} {p : Addr} {us : List D} {k : Nat} {d : D} {Q : ASt → AH → Prop} (h1 : C p = some (.lst us)) (h2 : ixN us.length j = some k) (h : Q s (put C p (.lst (us.set k d)))) : kSet p d s Q (.int j) C := by
  unfold kSet
  simp only [h1, h2]
  exact h
theorem g_frzL {i : Nat} {p : Addr} {ds : List D} {E : AEnds} (h0 : s[i]? = some (some (.ce p))) (h1 : C p = some (.lst ds)) (h : a E (s.set i (some (.lst ds))) (del C p)) : aFrz i a E s C := by
  unfold aFrz
  rw [h0]
  show (match C p with | some (.lst ds) => a E (s.set i (some (.lst ds))) (del C p) | some (.dk es) => a E (s.set i (some (.dk es))) (del C p) | _ => False)
  rw [h1]
  exact h
theorem g_var {i : Nat} {d : D} (hi : s[i]? = some (some d)) (h : P d C) : aVar i s C P := by
  unfold aVar
  rw [hi]
  exact h
theorem g_yes (h : PB true C) : aYes s C PB := h
theorem g_c {d : D} (h : P d C) : aC d s C P := h
theorem g_op {r : D → D → AH → (D → AH → Prop) → Prop} (h : e1 s C fun x C1 => e2 s C1 fun y C2 => r x y C2 P) : aOp r e1 e2 s C P := h
theorem g_un {r : D → AH → (D → AH → Prop) → Prop} (h : e1 s C fun x C1 => r x C1 P) : aUn r e1 s C P := h
theorem g_sub {i j : Int} (h : P (.int (i - j)) C) : aSub (.int i) (.int j) C P := h
theorem g_lt {i j : Int} (h : P (.bl (decide (i < j))) C) : aLt (.int i) (.int j) C P := h
theorem g_le {i j : Int} (h : P (.bl (decide (i ≤ j))) C) : aLe (.int i) (.int j) C P := h
theorem g_gt {i j : Int} (h : P (.bl (decide (j < i))) C) : aGt (.int i) (.int j) C P := h
theorem g_ge {i j : Int} (h : P (.bl (decide (j ≤ i))) C) : aGe (.int i) (.int j) C P := h
theorem g_mul {i j : Int} (h1 : CMul i j) (h : P (.int (i * j)) C) : aMul (.int i) (.int j) C P := ⟨h1, h⟩
theorem g_div {i j : Int} (h1 : CDiv i j) (h : P (.int (i / j)) C) : aDiv (.int i) (.int j) C P := ⟨h1, h⟩
theorem g_mod {i j : Int} (h1 : 0 < j) (h : P (.int (i % j)) C) : aMod (.int i) (.int j) C P := ⟨h1, h⟩
theorem g_pow {i j : Int} (h1 : CPow i j) (h : P (.int (i ^ j.toNat)) C) : aPow (.int i) (.int j) C P := ⟨h1, h⟩
theorem g_addI {i j : Int} (h : P (.int (i + j)) C) : aAdd (.int i) (.int j) C P := h
theorem g_addS {i j : Str} (h1 : i.length + j.length ≤ sizeLine) (h : P (.str (i ++ j)) C) : aAdd (.str i) (.str j) C P := ⟨h1, h⟩
theorem g_addT {i j : List D} (h1 : i.length + j.length ≤ sizeLine) (h : P (.tup (i ++ j)) C) : aAdd (.tup i) (.tup j) C P := ⟨h1, h⟩
theorem g_addL {i j : List D} (h1 : i.length + j.length ≤ sizeLine) (h : P (.lst (i ++ j)) C) : aAdd (.lst i) (.lst j) C P := ⟨i, j, rfl, rfl, h1, h⟩
theorem g_eqII {i j : Int} (h : P (.bl (decide (i = j))) C) : aEq (.int i) (.int j) C P := h
theorem g_neII {i j : Int} (h : P (.bl (!decide (i = j))) C) : aNe (.int i) (.int j) C P := h
theorem g_eqBB {i j : Bool} (h : P (.bl (decide (i = j))) C) : aEq (.bl i) (.bl j) C P := h
theorem g_neBB {i j : Bool} (h : P (.bl (!decide (i = j))) C) : aNe (.bl i) (.bl j) C P := h
theorem g_eqTT {i j : Str} (h : P (.bl (decide (i = j))) C) : aEq (.str i) (.str j) C P := h
theorem g_neTT {i j : Str} (h : P (.bl (!decide (i = j))) C) : aNe (.str i) (.str j) C P := h
theorem g_neP {x y : D} {u v : PyData} (h0 : eqS x y = none) (h1 : pdC C x = some u) (h2 : pdC C y = some v) (h3 : SeqAt.shaped u = true) (h4 : SeqAt.shaped v = true) (h : P (.bl (!PyData.eqv u v)) C) : aNe x y C P := by
  unfold aNe aEqN
  rw [h0]
  exact ⟨u, v, h1, h2, h3, h4, h⟩
theorem g_is {x : D} (h : P (.bl (isNon x)) C) : aIsN x .non C P := ⟨rfl, h⟩
theorem g_isnot {x : D} (h : P (.bl (!isNon x)) C) : aNotN x .non C P := ⟨rfl, h⟩
def kTru (PB : Bool → AH → Prop) : D → AH → Prop := fun x C1 => match truth C1 x with | some b => PB b C1 | none => False
theorem g_tru (h : e s C (kTru PB)) : aTru e s C PB := h
theorem g_kTruB {k : Bool} (h : PB k C) : kTru PB (.bl k) C := h
def kB (PB : Bool → AH → Prop) : D → AH → Prop := fun x C1 => match x with | .bl b => PB b C1 | _ => False
theorem g_B (h : e s C (kB PB)) : aB e s C PB := h
theorem g_kB {k : Bool} (h : PB k C) : kB PB (.bl k) C := h
theorem g_and (h : t1 s C fun c C1 => if c = true then t2 s C1 PB else PB false C1) : aAnd t1 t2 s C PB := h
theorem g_or (h : t1 s C fun c C1 => if c = true then PB true C1 else t2 s C1 PB) : aOr t1 t2 s C PB := h
theorem g_not (h : t1 s C fun c C1 => PB (!c) C1) : aNot t1 s C PB := h
def kAndV (e2 : AE') (s : ASt) (P : D → AH → Prop) : D → AH → Prop := fun x C1 => match truth C1 x with | some true => e2 s C1 P | some false => P x C1 | none => False
def kOrV (e2 : AE') (s : ASt) (P : D → AH → Prop) : D → AH → Prop := fun x C1 => match truth C1 x with | some true => P x C1 | some false => e2 s C1 P | none => False
def kNotV (P : D → AH → Prop) : D → AH → Prop := fun x C1 => match truth C1 x with | some b => P (.bl (!b)) C1 | none => False
theorem g_andV (h : e1 s C (kAndV e2 s P)) : aAndV e1 e2 s C P := h
theorem g_orV (h : e1 s C (kOrV e2 s P)) : aOrV e1 e2 s C P := h
theorem g_notV (h : e1 s C (kNotV P)) : aNotV e1 s C P := h
theorem g_kAnd {k : Bool} (h1 : k = true → e2 s C P) (h2 : k = false → P (.bl false) C) : kAndV e2 s P (.bl k) C := by
  cases k
  · exact h2 rfl
  · exact h1 rfl
theorem g_kOr {k : Bool} (h1 : k = true → P (.bl true) C) (h2 : k = false → e2 s C P) : kOrV e2 s P (.bl k) C := by
  cases k
  · exact h2 rfl
  · exact h1 rfl
theorem g_kNot {k : Bool} (h : P (.bl (!k)) C) : kNotV P (.bl k) C := h
theorem g_if (h : t s C fun c C1 => if c = true then e1 s C1 P else e2 s C1 P) : aIf t e1 e2 s C P := h
theorem g_ite {A B : Prop} {k : Bool} (h1 : k = true → A) (h2 : k = false → B) : if k = true then A else B := by
  cases k
  · exact h2 rfl
  · exact h1 rfl
theorem g_iteD {A B : Prop} {p : Prop} [Decidable p] (h1 : p → A) (h2 : ¬ p → B) : if decide p = true then A else B := by
  by_cases h : p
  · rw [decide_eq_true h]; exact h1 h
  · rw [decide_eq_false h]; exact h2 h
theorem g_iteT {A B : Prop} (h : A) : if true = true then A else B := h
theorem g_iteF {A B : Prop} (h : B) : if false = true then A else B := h
theorem g_iteNT {A B : Prop} (h : B) : if (!true) = true then A else B := h
theorem g_iteNF {A B : Prop} (h : A) : if (!false) = true then A else B := h
theorem g_nil (h : PA [] C) : aNil s C PA := h
theorem g_cons (h : e s C fun x C1 => aa s C1 fun xs C2 => PA (x :: xs) C2) : aCons e aa s C PA := h
theorem g_tup (h : aa s C fun ds C1 => ds.length ≤ sizeLine ∧ P (.tup ds) C1) : aTup aa s C P := h
theorem g_lst (h : aa s C fun ds C1 => ds.length ≤ sizeLine ∧ P (.lst ds) C1) : aLst aa s C P := h
theorem g_lstM (h : aa s C fun ds C1 => ds.length ≤ sizeLine ∧ ∀ p, C1 p = none → P (.ce p) (put C1 p (.lst ds))) : aLstM aa s C P := h
theorem g_call {asp : ASp} (h : aa s C fun ds C1 => asp ds C1 P) : aCall asp aa s C P := h
def kIsi (T : String) (P : D → AH → Prop) : D → AH → Prop := fun x C1 => match kindOf C1 x with | some t => P (.bl (isT T t)) C1 | none => False
theorem g_isi {T : String} (h : e s C (kIsi T P)) : aIsi T e s C P := h
theorem g_kIsiI {T : String} {i : Int} (h : P (.bl (isT T "int")) C) : kIsi T P (.int i) C := h
theorem g_kIsiB {T : String} {i : Bool} (h : P (.bl (isT T "bool")) C) : kIsi T P (.bl i) C := h
theorem g_kIsiN {T : String} (h : P (.bl (isT T "NoneType")) C) : kIsi T P .non C := h
theorem g_kIsiS {T : String} {i : Str} (h : P (.bl (isT T "str")) C) : kIsi T P (.str i) C := h
theorem g_kIsiL {T : String} {i : List D} (h : P (.bl (isT T "list")) C) : kIsi T P (.lst i) C := h
theorem g_kIsiT {T : String} {i : List D} (h : P (.bl (isT T "tuple")) C) : kIsi T P (.tup i) C := h
theorem g_kIsiK {T : String} {i : List (Key × D)} (h : P (.bl (isT T "dict")) C) : kIsi T P (.dk i) C := h
theorem g_kIsi {T t : String} {x : D} (h1 : kindOf C x = some t) (h : P (.bl (isT T t)) C) : kIsi T P x C := by
  unfold kIsi
  rw [h1]
  exact h
theorem g_meth {T : String} {m : D → ASp} (h : e s C fun x C1 => isTy T C1 x = true ∧ aa s C1 fun ds C2 => m x ds C2 P) : aMeth T m e aa s C P := h
theorem g_meth0 {T : String} {m : D → ASp} (h : e s C fun x C1 => isTy T C1 x = true ∧ m x [] C1 P) : aMeth0 T m e s C P := h
theorem g_append {p : Addr} {us : List D} {d : D} (h1 : C p = some (.lst us)) (h2 : us.length < sizeLine) (h : P .non (put C p (.lst (us ++ [d])))) : aAppend (.ce p) [d] C P := by
  unfold aAppend
  show (match C p with | some (.lst us) => us.length < sizeLine ∧ P .non (put C p (.lst (us ++ [d]))) | _ => False)
  rw [h1]
  exact ⟨h2, h⟩
theorem isTy_ce {T : String} {p : Addr} {us : List D} (h1 : C p = some (.lst us)) (h2 : T = "list") : isTy T C (.ce p) = true := by
  subst h2
  simp [isTy, h1]
theorem g_ixL {us : List D} {i : Int} {d : D} (h1 : atI us i = some d) (h : P d C) : aIx (.lst us) (.int i) C P := by
  show (match atI us i with | some d => P d C | none => False)
  rw [h1]; exact h
theorem g_ixT {us : List D} {i : Int} {d : D} (h1 : atI us i = some d) (h : P d C) : aIx (.tup us) (.int i) C P := by
  show (match atI us i with | some d => P d C | none => False)
  rw [h1]; exact h
theorem g_ixL0 {d : D} {us : List D} (h : P d C) : aIx (.lst (d :: us)) (.int 0) C P := g_ixL (atI_nat' (i := 0) rfl) h
theorem g_ixL1 {a d : D} {us : List D} (h : P d C) : aIx (.lst (a :: d :: us)) (.int 1) C P := g_ixL (atI_nat' (i := 1) rfl) h
theorem g_ixL2 {a b d : D} {us : List D} (h : P d C) : aIx (.lst (a :: b :: d :: us)) (.int 2) C P := g_ixL (atI_nat' (i := 2) rfl) h
theorem g_ixT0 {d : D} {us : List D} (h : P d C) : aIx (.tup (d :: us)) (.int 0) C P := g_ixT (atI_nat' (i := 0) rfl) h
theorem g_ixT1 {a d : D} {us : List D} (h : P d C) : aIx (.tup (a :: d :: us)) (.int 1) C P := g_ixT (atI_nat' (i := 1) rfl) h
theorem g_ixT2 {a b d : D} {us : List D} (h : P d C) : aIx (.tup (a :: b :: d :: us)) (.int 2) C P := g_ixT (atI_nat' (i := 2) rfl) h
theorem g_ixT3 {a b c d : D} {us : List D} (h : P d C) : aIx (.tup (a :: b :: c :: d :: us)) (.int 3) C P := g_ixT (atI_nat' (i := 3) rfl) h
theorem g_ixR {ns : List Int} {i : Int} {d : D} (h1 : atI (ns.map D.int) i = some d) (h : P d C) : aIx (.scr ns) (.int i) C P := by
  show (match atI (ns.map D.int) i with | some d => P d C | none => False)
  rw [h1]; exact h
theorem g_ixC {p : Addr} {us : List D} {i : Int} (h0 : C p = some (.lst us)) (h : aIx (.lst us) (.int i) C P) : aIx (.ce p) (.int i) C P := by
  show (match (match C p with | some (.lst us) => some us | _ => none) with | some ds => (match atI ds i with | some d => P d C | none => False) | none => False)
  rw [h0]
  exact h
theorem g_lenL {us : List D} (h : P (.int us.length) C) : aLen [.lst us] C P := h
theorem g_lenT {us : List D} (h : P (.int us.length) C) : aLen [.tup us] C P := h
theorem g_lenS {z : Str} (h1 : z.length ≤ sizeLine) (h : P (.int z.length) C) : aLen [.str z] C P := ⟨h1, h⟩
theorem g_lenR {ns : List Int} (h : P (.int ns.length) C) : aLen [.scr ns] C P := by
  show P (.int (ns.map D.int).length) C
  rw [List.length_map]; exact h
theorem g_lenC {p : Addr} {us : List D} (h0 : C p = some (.lst us)) (h : P (.int us.length) C) : aLen [.ce p] C P := by
  show (match C p with | some (.lst us) => P (.int us.length) C | some (.dk us) => P (.int us.length) C | _ => False)
  rw [h0]; exact h
theorem g_abs {i : Int} (h : P (.int (if i < 0 then -i else i)) C) : aAbs [.int i] C P := h
theorem g_max2 {i j : Int} (h : P (.int (if j > i then j else i)) C) : aMax2 [.int i, .int j] C P := h
theorem g_min2 {i j : Int} (h : P (.int (if j < i then j else i)) C) : aMin2 [.int i, .int j] C P := h
theorem g_intI {i : Int} (h : P (.int i) C) : aInt [.int i] C P := h
theorem g_intB {k : Bool} (h : P (.int (if k then 1 else 0)) C) : aInt [.bl k] C P := h
theorem g_listL {us : List D} (h : P (.lst us) C) : aListOf [.lst us] C P := h
theorem g_listT {us : List D} (h : P (.lst us) C) : aListOf [.tup us] C P := h
theorem g_tupleL {us : List D} (h : P (.tup us) C) : aTupleOf [.lst us] C P := h
theorem g_tupleT {us : List D} (h : P (.tup us) C) : aTupleOf [.tup us] C P := h
theorem g_all {us : List D} {bs : List Bool} (h1 : blsD us = some bs) (h : P (.bl (bs.all id)) C) : aAll [.lst us] C P := by
  show (match (some us).bind blsD with | some bs => P (.bl (bs.all id)) C | none => False)
  rw [Option.bind_some, h1]; exact h
theorem g_rev {us : List D} (h : P (.lst us.reverse) C) : aRev (.lst us) C P := h
variable {PI : List D → (AH → Prop) → AH → Prop}
def kIL (PI : List D → (AH → Prop) → AH → Prop) : D → AH → Prop := fun x C1 => match asLr C1 x with | some ds => PI ds (fun C' => asLr C' x = some ds) C1 | none => False
theorem g_il (h : e s C (kIL PI)) : aIL e s C PI := h
theorem g_kIL {us : List D} (h : PI us (fun _ => True) C) (e : ∀ C' : AH, asLr C' (.lst us) = some us) (m : (fun _ : AH => True) = fun C' : AH => asLr C' (.lst us) = some us) : kIL PI (.lst us) C := by
  show PI us (fun C' => asLr C' (.lst us) = some us) C
  rw [← m]
  exact h
theorem g_kILl {us : List D} (h : PI us (fun _ => True) C) : kIL PI (.lst us) C := g_kIL h (fun _ => rfl) (by funext C'; simp [asLr, asL])
theorem g_kILr {ns : List Int} (h : PI (ns.map D.int) (fun _ => True) C) : kIL PI (.scr ns) C := by
  show PI (ns.map D.int) (fun C' => asLr C' (.scr ns) = some (ns.map D.int)) C
  have m : (fun _ : AH => True) = fun C' : AH => asLr C' (.scr ns) = some (ns.map D.int) := by funext C'; simp [asLr]
  rw [← m]
  exact h
def kIT (PI : List D → (AH → Prop) → AH → Prop) : D → AH → Prop := fun x C1 => match asT x with | some ds => PI ds (fun _ => True) C1 | none => False
theorem g_it (h : e s C (kIT PI)) : aIT e s C PI := h
theorem g_kIT {us : List D} (h : PI us (fun _ => True) C) : kIT PI (.tup us) C := h
def kIS (PI : List D → (AH → Prop) → AH → Prop) : D → AH → Prop := fun x C1 => match x with | .str z => PI (signs z) (fun _ => True) C1 | _ => False
theorem g_is' (h : e s C (kIS PI)) : aIS e s C PI := h
theorem g_kIS {z : Str} (h : PI (signs z) (fun _ => True) C) : kIS PI (.str z) C := h
def kIR1 (PI : List D → (AH → Prop) → AH → Prop) : List D → AH → Prop := fun ds C1 => match ds with | [.int j] => -(2 ^ 62) ≤ j ∧ j < 2 ^ 62 ∧ PI (rangeD 0 j.toNat) (fun _ => True) C1 | _ => False
theorem g_ir1 (h : aa s C (kIR1 PI)) : aIR1 aa s C PI := h
theorem g_kIR1 {j : Int} (h1 : -(2 ^ 62) ≤ j) (h2 : j < 2 ^ 62) (h : PI (rangeD 0 j.toNat) (fun _ => True) C) : kIR1 PI [.int j] C := ⟨h1, h2, h⟩
def kIR2 (PI : List D → (AH → Prop) → AH → Prop) : List D → AH → Prop := fun ds C1 => match ds with | [.int i, .int j] => (-(2 ^ 62) ≤ i ∧ i < 2 ^ 62 ∧ -(2 ^ 62) ≤ j ∧ j < 2 ^ 62) ∧ PI (rangeD i (j - i).toNat) (fun _ => True) C1 | _ => False
theorem g_ir2 (h : aa s C (kIR2 PI)) : aIR2 aa s C PI := h
theorem g_kIR2 {i j : Int} (h1 : -(2 ^ 62) ≤ i ∧ i < 2 ^ 62 ∧ -(2 ^ 62) ≤ j ∧ j < 2 ^ 62) (h : PI (rangeD i (j - i).toNat) (fun _ => True) C) : kIR2 PI [.int i, .int j] C := ⟨h1, h⟩
def kIE (PI : List D → (AH → Prop) → AH → Prop) : List D → AH → Prop := fun us C1 => match us with | [x] => (match asLr C1 x with | some ds => PI (enumD ds) (fun C' => asLr C' x = some ds) C1 | none => False) | _ => False
theorem g_ie (h : aa s C (kIE PI)) : aIE aa s C PI := h
theorem g_kIE {us : List D} (h : PI (enumD us) (fun _ => True) C) : kIE PI [.lst us] C := by
  show PI (enumD us) (fun C' => asLr C' (.lst us) = some us) C
  have m : (fun _ : AH => True) = fun C' : AH => asLr C' (.lst us) = some us := by funext C'; simp [asLr, asL]
  rw [← m]
  exact h
def kIZ (PI : List D → (AH → Prop) → AH → Prop) : List D → AH → Prop := fun us C1 => match us with | [x, y] => (match asLr C1 x, asLr C1 y with | some ds, some es => PI (zipD ds es) (fun C' => asLr C' x = some ds ∧ asLr C' y = some es) C1 | _, _ => False) | _ => False
theorem g_iz (h : aa s C (kIZ PI)) : aIZ aa s C PI := h
theorem g_kIZ {us ws : List D} (h : PI (zipD us ws) (fun _ => True) C) : kIZ PI [.lst us, .lst ws] C := by
  show PI (zipD us ws) (fun C' => asLr C' (.lst us) = some us ∧ asLr C' (.lst ws) = some ws) C
  have m : (fun _ : AH => True) = fun C' : AH => asLr C' (.lst us) = some us ∧ asLr C' (.lst ws) = some ws := by funext C'; simp [asLr, asL]
  rw [← m]
  exact h
/-- a loop whose items are known -/
def kFor (g : AG') (ab : AS') (nx : ASt → AH → Prop) (rt : D → AH → Prop) (s : ASt) : List D → (AH → Prop) → AH → Prop := fun items hold C => ∃ W : Nat → ASt → AH → Prop, W 0 s C ∧ (∀ i s' C', i ≤ items.length → W i s' C' → hold C') ∧
  (∀ i d s' C', items[i]? = some d → W i s' C' → g d s' C' fun s2 C2 => ab ⟨W (i + 1), rt, nx, W (i + 1)⟩ s2 C2) ∧ ∀ s' C', W items.length s' C' → nx s' C'
theorem g_for {ab : AS'} (h : w s C (kFor g ab nx rt s)) : aFor w g ab ⟨nx, rt, bk, ct⟩ s C := h
theorem g_kFor {ab : AS'} {items : List D} (W : Nat → ASt → AH → Prop) (h0 : W 0 s C)
    (hs : ∀ i d s' C', items[i]? = some d → W i s' C' → g d s' C' fun s2 C2 => ab ⟨W (i + 1), rt, nx, W (i + 1)⟩ s2 C2) (hd : ∀ s' C', W items.length s' C' → nx s' C') : kFor g ab nx rt s items (fun _ => True) C :=
  ⟨W, h0, fun _ _ _ _ _ => trivial, hs, hd⟩
/-- over a range -/
theorem g_kForR {ab : AS'} {lo : Int} {n j : Nat} (W : Nat → ASt → AH → Prop) (h0 : W 0 s C)
    (hs : ∀ (i : Nat) s' C', i < n → W i s' C' → ab ⟨W (i + 1), rt, nx, W (i + 1)⟩ (s'.set j (some (.int (lo + i)))) C') (hd : ∀ s' C', W n s' C' → nx s' C') : kFor (aGName j) ab nx rt s (rangeD lo n) (fun _ => True) C := by
  refine g_kFor W h0 (fun i d s' C' hi hw => ?_) (fun s' C' hw => hd s' C' (by rw [rangeD_len] at hw; exact hw))
  have hl : i < n := by
    have := (List.getElem?_eq_some_iff.mp hi).1
    rw [rangeD_len] at this
    exact this
  rw [rangeD_get hl] at hi
  cases hi
  exact hs i s' C' hl hw
theorem g_kForR0 {ab : AS'} {n j : Nat} (W : Nat → ASt → AH → Prop) (h0 : W 0 s C)
    (hs : ∀ (i : Nat) s' C', i < n → W i s' C' → ab ⟨W (i + 1), rt, nx, W (i + 1)⟩ (s'.set j (some (.int (i : Int)))) C') (hd : ∀ s' C', W n s' C' → nx s' C') : kFor (aGName j) ab nx rt s (rangeD 0 n) (fun _ => True) C :=
  g_kForR W h0 (fun i s' C' hi w => by rw [Int.zero_add]; exact hs i s' C' hi w) hd
/-- over a list of which something is known of each item -/
theorem g_kForL {ab : AS'} {items : List D} {j : Nat} (W : Nat → ASt → AH → Prop) (h0 : W 0 s C)
    (hs : ∀ (i : Nat) d s' C', items[i]? = some d → W i s' C' → ab ⟨W (i + 1), rt, nx, W (i + 1)⟩ (s'.set j (some d)) C') (hd : ∀ s' C', W items.length s' C' → nx s' C') : kFor (aGName j) ab nx rt s items (fun _ => True) C := g_kFor W h0 hs hd
theorem g_while {t : AT'} {ab : AS'} (W : Nat → ASt → AH → Prop) (m : Nat) (h0 : W m s C) (hs : ∀ m s' C', W m s' C' → t s' C' fun k C1 => if k = true then ab ⟨fun s2 C2 => ∃ m', m' < m ∧ W m' s2 C2, rt, nx, fun s2 C2 => ∃ m', m' < m ∧ W m' s2 C2⟩ s' C1 else nx s' C1) : aWhile t ab ⟨nx, rt, bk, ct⟩ s C := ⟨W, ⟨m, h0⟩, hs⟩
def kLc (g : AG') (t : AT') (e : AE') (vs : List Nat) (fin : List D → AH → Prop) (s : ASt) : List D → (AH → Prop) → AH → Prop := fun items hold C1 => items.length ≤ sizeLine ∧ ∃ W : Nat → List D → AH → Prop, W 0 [] C1 ∧ (∀ i acc C', i ≤ items.length → W i acc C' → hold C') ∧
  (∀ i d acc C', items[i]? = some d → W i acc C' → g d (wipeA s vs) C' fun s2 C2 => t s2 C2 fun b C3 => if b = true then e s2 C3 fun y C4 => W (i + 1) (acc ++ [y]) C4 else W (i + 1) acc C3) ∧ ∀ acc C', W items.length acc C' → fin acc C'
theorem g_lc {t : AT'} {vs : List Nat} (h : w s C (kLc g t e vs (fun acc C' => P (.lst acc) C') s)) : aLc w g t e vs s C P := h
theorem g_lcM {t : AT'} {vs : List Nat} (h : w s C (kLc g t e vs (fun acc C' => ∀ p, C' p = none → P (.ce p) (put C' p (.lst acc))) s)) : aLcM w g t e vs s C P := h
theorem g_kLc {t : AT'} {vs : List Nat} {fin : List D → AH → Prop} {items : List D} (W : Nat → List D → AH → Prop) (hl : items.length ≤ sizeLine) (h0 : W 0 [] C)
    (hs : ∀ i d acc C', items[i]? = some d → W i acc C' → g d (wipeA s vs) C' fun s2 C2 => t s2 C2 fun b C3 => if b = true then e s2 C3 fun y C4 => W (i + 1) (acc ++ [y]) C4 else W (i + 1) acc C3) (hd : ∀ acc C', W items.length acc C' → fin acc C') : kLc g t e vs fin s items (fun _ => True) C :=
  ⟨hl, W, h0, fun _ _ _ _ _ => trivial, hs, hd⟩
/-- [f x for x in items], each as it stands, the cells stay -/
theorem g_kLcMap {vs : List Nat} {fin : List D → AH → Prop} {items : List D} {j : Nat} (f : D → D) (hl : items.length ≤ sizeLine) (hs : ∀ d, d ∈ items → ∀ R : D → AH → Prop, R (f d) C → e ((wipeA s vs).set j (some d)) C R) (hd : fin (items.map f) C) : kLc (aGName j) aYes e vs fin s items (fun _ => True) C := by
  refine g_kLc (fun i acc C' => acc = (items.take i).map f ∧ C' = C) hl ⟨rfl, rfl⟩ (fun i d acc C' hi hw => ?_) (fun acc C' hw => ?_)
  · obtain ⟨rfl, rfl⟩ := hw
    refine hs d (List.mem_of_getElem? hi) _ ⟨?_, rfl⟩
    rw [List.take_add_one, hi, List.map_append]
    rfl
  · obtain ⟨rfl, rfl⟩ := hw
    rw [List.take_length]
    exact hd
end
theorem g_sz {n : Nat} {A : Prop} (h1 : n ≤ sizeLine) (h : A) : n ≤ sizeLine ∧ A := ⟨h1, h⟩
theorem g_ty {T : String} {C : AH} {d : D} {A : Prop} (h1 : isTy T C d = true) (h : A) : isTy T C d = true ∧ A := ⟨h1, h⟩
theorem ne_cell {C : AH} {p q : Addr} {c : Cell} (h : C p = some c) (g : C q = none) : p ≠ q := fun z => by rw [z, g] at h; cases h
theorem put_other {C : AH} {p q : Addr} {o : Option Cell} {d : Cell} (hn : p ≠ q) (h : C p = o) : put C q d p = o := by rw [put_ne hn]; exact h
theorem del_other {C : AH} {p q : Addr} {o : Option Cell} (hn : p ≠ q) (h : C p = o) : del C q p = o := by unfold del; rw [if_neg hn]; exact h
end AL
namespace AL
open PySem L2
mutual
def okD : D → Nat → Bool
  | .non, _ => true
  | .bl _, _ => true
  | .int _, _ => true
  | .str x, _ => x.cps.all (· < 0x110000)
  | .lst ds, n + 1 => okL ds n
  | .tup ds, n + 1 => okL ds n
  | _, _ => false
def okL : List D → Nat → Bool
  | [], _ => true
  | d :: ds, n => okD d n && okL ds n
end
theorem okL_all {ds : List D} {n : Nat} : okL ds n = true ↔ ∀ d ∈ ds, okD d n = true := by
  induction ds with
  | nil => simp [okL]
  | cons d ds ih => simp [okL, ih]
mutual
theorem okD_pd : ∀ (d : D) (n : Nat), okD d n = true → ∃ x, d.pd = some x ∧ x.canLay0 = true ∧ x.depth ≤ n
  | .non, n, _ => ⟨.none, by simp [D.pd], by simp [PyData.canLay0], by simp [PyData.depth]⟩
  | .bl b, n, _ => ⟨.bool b, by simp [D.pd], by simp [PyData.canLay0], by simp [PyData.depth]⟩
  | .int i, n, _ => ⟨.int i, by simp [D.pd], by simp [PyData.canLay0], by simp [PyData.depth]⟩
  | .str x, n, h => ⟨.str x, by simp [D.pd], by simpa [PyData.canLay0, PyData.strOk, okD] using h, by simp [PyData.depth]⟩
  | .lst ds, 0, h => by simp [okD] at h
  | .lst ds, n + 1, h => by
    obtain ⟨xs, h1, h2, h3⟩ := okL_pd ds n (by simpa [okD] using h)
    exact ⟨.list xs, by simp [D.pd, h1], by simpa [PyData.canLay0] using h2, by simp [PyData.depth]; omega⟩
  | .tup ds, 0, h => by simp [okD] at h
  | .tup ds, n + 1, h => by
    obtain ⟨xs, h1, h2, h3⟩ := okL_pd ds n (by simpa [okD] using h)
    exact ⟨.tuple xs, by simp [D.pd, h1], by simpa [PyData.canLay0] using h2, by simp [PyData.depth]; omega⟩
  | .dk _, _, h => by simp [okD] at h
  | .scr _, _, h => by simp [okD] at h
  | .ce _, _, h => by simp [okD] at h
theorem okL_pd : ∀ (ds : List D) (n : Nat), okL ds n = true → ∃ xs, pdL ds = some xs ∧ PyData.canLayAll0 xs = true ∧ PyData.depthAll xs ≤ n
  | [], n, _ => ⟨[], by simp [pdL], by simp [PyData.canLayAll0], by simp [PyData.depthAll]⟩
  | d :: ds, n, h => by
    simp only [okL, Bool.and_eq_true] at h
    obtain ⟨x, a1, a2, a3⟩ := okD_pd d n h.1
    obtain ⟨xs, b1, b2, b3⟩ := okL_pd ds n h.2
    exact ⟨x :: xs, by simp [pdL, a1, b1], by simp [PyData.canLayAll0, a2, b2], by simp [PyData.depthAll]; omega⟩
end
theorem okD_shaped {d : D} {n : Nat} (h : okD d n = true) (hn : n ≤ 64) : ∃ x, d.pd = some x ∧ SeqAt.shaped x = true ∧ PyData.eqv x x = true := by
  obtain ⟨x, h1, h2, h3⟩ := okD_pd d n h
  refine ⟨x, h1, ?_, SeqAt.eqv_refl x h2⟩
  unfold SeqAt.shaped
  rw [h2, decide_eq_true (show x.depth ≤ 64 by omega)]
  rfl
theorem eqS_self {d : D} {b : Bool} (h : eqS d d = some b) : b = true := by
  cases d <;> simp [eqS] at h <;> exact h
theorem pdC_ok' {C : AH} {d : D} {n : Nat} (h : okD d n = true) : pdC C d = d.pd := by
  cases d <;> first | rfl | (simp [okD] at h)
/-- a thing and itself -/
theorem g_eqR {C : AH} {d : D} {P : D → AH → Prop} (n : Nat) (h : okD d n = true) (hn : n ≤ 64) (k : P (.bl true) C) : aEq d d C P := by
  unfold aEq aEqN
  split
  · rename_i b e
    rw [eqS_self e]
    exact k
  · obtain ⟨x, h1, h2, h3⟩ := okD_shaped h hn
    exact ⟨x, x, (pdC_ok' h).trans h1, (pdC_ok' h).trans h1, h2, h2, by rw [h3]; exact k⟩
theorem g_neR {C : AH} {d : D} {P : D → AH → Prop} (n : Nat) (h : okD d n = true) (hn : n ≤ 64) (k : P (.bl false) C) : aNe d d C P := by
  unfold aNe aEqN
  split
  · rename_i b e
    rw [eqS_self e]
    exact k
  · obtain ⟨x, h1, h2, h3⟩ := okD_shaped h hn
    exact ⟨x, x, (pdC_ok' h).trans h1, (pdC_ok' h).trans h1, h2, h2, by rw [h3]; exact k⟩
theorem okD_tup {ds : List D} {n : Nat} (h : ∀ d ∈ ds, okD d n = true) : okD (.tup ds) (n + 1) = true := by
  simp only [okD]; exact okL_all.mpr h
def oD : Option Nat → D
  | none => .non
  | some n => .int (n : Int)
@[simp] theorem okD_oD (o : Option Nat) (n : Nat) : okD (oD o) n = true := by cases o <;> simp [oD, okD]
/-- sg signs; every stand that is led to is there -/
structure Mach (sg : Nat) (ends : List Bool) (goes : List (List (Option Nat))) : Prop where
  len : ends.length = goes.length
  pos : 0 < ends.length
  most : ends.length ≤ 1000
  row : ∀ r ∈ goes, r.length = sg
  go : ∀ r ∈ goes, ∀ t, some t ∈ r → t < ends.length
def stepO (goes : List (List (Option Nat))) (s : Option Nat) (n : Nat) : Option Nat := match s with
  | none => none
  | some t => match goes[t]? with
    | some r => (match r[n]? with | some o => o | none => none)
    | none => none
def runO (goes : List (List (Option Nat))) (s : Option Nat) (row : List Nat) : Option Nat := row.foldl (stepO goes) s
def inn (n : Nat) (s : Option Nat) : Prop := ∀ t, s = some t → t < n
theorem Mach.step {sg : Nat} {ends : List Bool} {goes : List (List (Option Nat))} (M : Mach sg ends goes) {s : Option Nat} {n : Nat} (hs : inn ends.length s) (hn : n < sg) : inn ends.length (stepO goes s n) := by
  intro t ht
  cases s with
  | none => cases ht
  | some u =>
    have hu := hs u rfl
    have hu' : u < goes.length := by rw [← M.len]; exact hu
    have hr := M.row goes[u] (List.getElem_mem hu')
    simp only [stepO, List.getElem?_eq_getElem hu', List.getElem?_eq_getElem (show n < goes[u].length by rw [hr]; exact hn)] at ht
    exact M.go goes[u] (List.getElem_mem hu') t (by rw [← ht]; exact List.getElem_mem _)
theorem Mach.run {sg : Nat} {ends : List Bool} {goes : List (List (Option Nat))} (M : Mach sg ends goes) : ∀ (row : List Nat) {s : Option Nat}, inn ends.length s → (∀ n ∈ row, n < sg) → inn ends.length (runO goes s row)
  | [], _, hs, _ => hs
  | n :: row, _, hs, hr => M.run row (M.step hs (hr n (List.mem_cons_self))) fun k hk => hr k (List.mem_cons_of_mem _ hk)
end AL
namespace AL
open PySem L2
abbrev natsD (row : List Nat) : List D := row.map fun (n : Nat) => D.int (n : Int)
theorem natsD_get {row : List Nat} {i : Nat} {d : D} (h : (natsD row)[i]? = some d) : ∃ hi : i < row.length, d = .int (row[i] : Nat) := by
  unfold natsD at h
  rw [List.getElem?_map] at h
  cases q : row[i]? with
  | none => rw [q] at h; cases h
  | some n =>
    rw [q] at h
    obtain ⟨hi, e⟩ := List.getElem?_eq_some_iff.mp q
    cases h
    exact ⟨hi, by rw [e]⟩
@[simp] theorem natsD_len (row : List Nat) : (natsD row).length = row.length := by unfold natsD; rw [List.length_map]
end AL
namespace AL
open PySem PySem.Spec L2
variable {B : Bs}
def keyOf : D → Option Key
  | .int i => some (.inl i)
  | .str x => some (.inr x)
  | _ => none
def valD (es : List (Key × D)) (k : Key) : Option D := (es.find? fun kv => decide (kv.1 = k)).map (·.2)
def putD (es : List (Key × D)) (k : Key) (d : D) : List (Key × D) :=
  if (es.any fun kv => decide (kv.1 = k)) = true then es.map (fun kv => if kv.1 = k then (kv.1, d) else kv) else es ++ [(k, d)]
def asK (C : AH) : D → Option (List (Key × D))
  | .dk es => some es
  | .ce p => (match C p with | some (.dk es) => some es | _ => none)
  | _ => none
section
variable {K : PySem.W.Frag} {F F' : Hp} {C : AH} {R H : Hp}
theorem keyOf_ok {v : V} {d : D} {k : Key} (r : Rep K F v d) (h : keyOf d = some k) : v = kV k := by
  cases r <;> simp [keyOf] at h <;> subst h <;> rfl
theorem RepK.val (k : Key) : ∀ {vs : List (Key × V)} {ds : List (Key × D)}, RepK K F vs ds → (match valD ds k with | some d => ∃ v, valV vs k = some v ∧ Rep K F v d | none => valV vs k = none)
  | _, _, .nil => rfl
  | (j, v) :: vs, (_, d) :: ds, .cons r t => by
    have ih := RepK.val k t
    unfold valD valV at ih ⊢
    by_cases e : j = k
    · subst e
      simp only [List.find?_cons, decide_true, Option.map_some]
      exact ⟨v, rfl, r⟩
    · simp only [List.find?_cons, decide_eq_false e]
      exact ih
theorem RepK.any (k : Key) : ∀ {vs : List (Key × V)} {ds : List (Key × D)}, RepK K F vs ds → (vs.any fun kv => decide (kv.1 = k)) = ds.any fun kv => decide (kv.1 = k)
  | _, _, .nil => rfl
  | _, _, .cons r t => by rw [List.any_cons, List.any_cons, RepK.any k t]
theorem RepK.repl (k : Key) {v : V} {d : D} (r : Rep K F v d) : ∀ {vs : List (Key × V)} {ds : List (Key × D)}, RepK K F vs ds → RepK K F (vs.map fun kv => if kv.1 = k then (kv.1, v) else kv) (ds.map fun kv => if kv.1 = k then (kv.1, d) else kv)
  | _, _, .nil => .nil
  | (j, _) :: _, _, .cons q t => by
    rw [List.map_cons, List.map_cons]
    by_cases e : j = k
    · rw [if_pos e, if_pos e]; exact .cons r (RepK.repl k r t)
    · rw [if_neg e, if_neg e]; exact .cons q (RepK.repl k r t)
theorem RepK.snoc (k : Key) {v : V} {d : D} (r : Rep K F v d) : ∀ {vs : List (Key × V)} {ds : List (Key × D)}, RepK K F vs ds → RepK K F (vs ++ [(k, v)]) (ds ++ [(k, d)])
  | _, _, .nil => .cons r .nil
  | _, _, .cons q t => .cons q (RepK.snoc k r t)
theorem RepK.put (k : Key) {v : V} {d : D} (r : Rep K F v d) {vs : List (Key × V)} {ds : List (Key × D)} (h : RepK K F vs ds) : RepK K F (putK vs k v) (putD ds k d) := by
  unfold putK putD
  rw [RepK.any k h]
  split
  · exact RepK.repl k r h
  · exact RepK.snoc k r h
theorem asK_ok {v : V} {d : D} {es : List (Key × D)} (hS : Sat B K F C R H) (r : Rep K F v d) (h : asK C d = some es) : ∃ a kvs, v = .ref a ∧ H a = some (.dK kvs) ∧ RepK K F kvs es := by
  cases d with
  | dk e =>
    cases h
    cases r with
    | dk h1 h2 => exact ⟨_, _, rfl, hS.ex _ _ h1, h2⟩
  | ce p =>
    cases r
    have h : (match C p with | some (.dk es) => some es | _ => none) = some es := h
    cases q : C p with
    | none => rw [q] at h; cases h
    | some c =>
      rw [q] at h
      obtain ⟨_, o, h1, h2⟩ := hS.cell p c q
      cases c with
      | dk e =>
        cases h
        cases h2 with
        | dk h3 => exact ⟨p, _, rfl, h1, h3⟩
      | _ => cases h
  | _ => cases h
end
/-- d[k] -/
def aGetK (o i : AE') : AE' := fun s C P => o s C fun x C1 => i s C1 fun y C2 => match asK C2 x, keyOf y with
  | some es, some k => (match valD es k with | some d => P d C2 | none => False)
  | _, _ => False
theorem sim_getK {K : PySem.W.Frag} {to ti : TE} {ao ai : AE'} (ho : SimE B K to ao) (hi : SimE B K ti ai) : SimE B K (tDGet to ti) (aGetK ao ai) := by
  intro σ s F C R H Q P hs hS h k
  refine ho σ s F C R H _ _ hs hS h fun x v F1 C1 H1 e1 S1 r1 h1 => ?_
  refine hi σ s F1 C1 R H1 _ _ (hs.mono e1) S1 h1 fun y w F2 C2 H2 e2 S2 r2 h2 => ?_
  split at h2
  · rename_i es ky q1 q2
    split at h2
    · rename_i d q3
      obtain ⟨a, kvs, rfl, h3, h4⟩ := asK_ok S2 (r1.mono e2) q1
      have h5 := RepK.val ky h4
      rw [q3] at h5
      obtain ⟨u, h6, h7⟩ := h5
      refine ⟨a, u, rfl, ?_, k _ _ F2 C2 H2 (e1.trans e2) S2 h7 h2⟩
      rw [keyOf_ok r2 q2, ← h6]
      exact .k h3
    · exact h2.elim
  · exact h2.elim
theorem ae_getK {X : Cx} {pos : Pos} {o i : Expr} {to ti : TE} {ao ai : AE'} (hu : X.A.units + 1 < cLine) (ho : AE B X o to ao) (hi : AE B X i ti ai) (hs : NoSl i := by exact fun _ _ => rfl) : AE B X (.Subscript o i pos) (tDGet to ti) (aGetK ao ai) :=
  ⟨pe_dget hu ho.pe hi.pe hs, sim_getK ho.sim hi.sim⟩
section
variable {X : Cx} {pos : Pos} {o i e : Expr} {to ti te : TE} {ao ai a : AE'}
/-- d[k] = e -/
def aPutK (o i e : AE') : AS' := fun E s C => e s C fun d C1 => o s C1 fun x C2 => i s C2 fun y C3 => match x, keyOf y with
  | .ce p, some k => (match C3 p with | some (.dk es) => es.length < sizeLine ∧ E.nx s (put C3 p (.dk (putD es k d))) | _ => False)
  | _, _ => False
end
def mergeD (es more : List (Key × D)) : List (Key × D) := more.foldl (fun acc kv => putD acc kv.1 kv.2) es
theorem RepK.merge {K : PySem.W.Frag} {F : Hp} : ∀ {more : List (Key × V)} {ms : List (Key × D)} {vs : List (Key × V)} {ds : List (Key × D)}, RepK K F more ms → RepK K F vs ds → RepK K F (mergeK vs more) (mergeD ds ms)
  | _, _, _, _, .nil, h => h
  | (k, v) :: more, (_, d) :: ms, vs, ds, .cons r t, h => by
    show RepK K F (mergeK (putK vs k v) more) (mergeD (putD ds k d) ms)
    exact RepK.merge t (RepK.put k r h)
/-- a, b = x, y -/
def aPar (i j : Nat) (aa : AA') : AS' := fun E s C => aa s C fun ds C1 => match ds with
  | [d, e] => E.nx ((s.set i (some d)).set j (some e)) C1
  | _ => False
section
variable {nx : ASt → AH → Prop} {rt : D → AH → Prop} {bk ct : ASt → AH → Prop} {s : ASt} {C : AH} {P : D → AH → Prop} {aa : AA'} {e : AE'} {i j : Nat} {p : Addr}
def kPar (i j : Nat) (nx : ASt → AH → Prop) (s : ASt) : List D → AH → Prop := fun ds C1 => match ds with
  | [d, e] => nx ((s.set i (some d)).set j (some e)) C1
  | _ => False
theorem g_par (h : aa s C (kPar i j nx s)) : aPar i j aa ⟨nx, rt, bk, ct⟩ s C := (congrArg (aa s C) (by funext ds C1; rfl)).mpr h
theorem g_kPar {d e : D} {s' : ASt} (h0 : (s.set i (some d)).set j (some e) = s') (h : nx s' C) : kPar i j nx s [d, e] C := by
  subst h0
  exact h
theorem g_neg {z : Int} (h : P (.int (-z)) C) : aNeg (.int z) C P := h
def penD (x y z : D) : Cell := .dk [(.inr "script", x), (.inr "at", y), (.inr "left", z)]
theorem g_pen0 {x y z : D} (hi : s[i]? = some (some (.ce p))) (h1 : C p = some (penD x y z)) (h : P x C) : aGetK (aVar i) (aC (.str "script")) s C P := by
  refine g_var hi ?_
  show (match (match C p with | some (.dk es) => some es | _ => none), keyOf (.str "script") with | some es, some k => (match valD es k with | some d => P d C | none => False) | _, _ => False)
  rw [h1]
  exact h
theorem g_pen1 {x y z : D} (hi : s[i]? = some (some (.ce p))) (h1 : C p = some (penD x y z)) (h : P y C) : aGetK (aVar i) (aC (.str "at")) s C P := by
  refine g_var hi ?_
  show (match (match C p with | some (.dk es) => some es | _ => none), keyOf (.str "at") with | some es, some k => (match valD es k with | some d => P d C | none => False) | _, _ => False)
  rw [h1]
  exact h
theorem g_pen2 {x y z : D} (hi : s[i]? = some (some (.ce p))) (h1 : C p = some (penD x y z)) (h : P z C) : aGetK (aVar i) (aC (.str "left")) s C P := by
  refine g_var hi ?_
  show (match (match C p with | some (.dk es) => some es | _ => none), keyOf (.str "left") with | some es, some k => (match valD es k with | some d => P d C | none => False) | _, _ => False)
  rw [h1]
  exact h
def kPut (i : Nat) (x : Str) (nx : ASt → AH → Prop) (s : ASt) : D → AH → Prop := fun d C1 => aVar i s C1 fun x' C2 => match x' with
  | .ce p => (match C2 p with | some (.dk es) => es.length < sizeLine ∧ nx s (put C2 p (.dk (putD es (.inr x) d))) | _ => False)
  | _ => False
theorem g_putK {x : Str} (h : e s C (kPut i x nx s)) : aPutK (aVar i) (aC (.str x)) e ⟨nx, rt, bk, ct⟩ s C := by
  refine (congrArg (e s C) ?_).mpr h
  funext d C1
  refine congrArg (aVar i s C1) ?_
  funext y C2
  cases y <;> rfl
theorem g_kPut1 {x y z d : D} (hi : s[i]? = some (some (.ce p))) (h1 : C p = some (penD x y z)) (h : nx s (put C p (penD x d z))) : kPut i "at" nx s d C := by
  refine g_var hi ?_
  show (match C p with | some (.dk es) => es.length < sizeLine ∧ nx s (put C p (.dk (putD es (.inr "at") d))) | _ => False)
  rw [h1]
  exact ⟨by show 3 < sizeLine; decide, h⟩
theorem g_kPut2 {x y z d : D} (hi : s[i]? = some (some (.ce p))) (h1 : C p = some (penD x y z)) (h : nx s (put C p (penD x y d))) : kPut i "left" nx s d C := by
  refine g_var hi ?_
  show (match C p with | some (.dk es) => es.length < sizeLine ∧ nx s (put C p (.dk (putD es (.inr "left") d))) | _ => False)
  rw [h1]
  exact ⟨by show 3 < sizeLine; decide, h⟩
end
end AL
namespace AL
open PySem PySem.Spec L2
variable {B : Bs}
section
variable {s : ASt} {C : AH} {P : D → AH → Prop} {a e : AE'} {l h : AO'} {PO : Option Int → AH → Prop}
theorem g_sl {r : D → Option Int → Option Int → AH → (D → AH → Prop) → Prop} (h0 : a s C fun x C1 => l s C1 fun i C2 => h s C2 fun j C3 => r x i j C3 P) : aSl r a l h s C P := h0
theorem g_noPart (h0 : PO none C) : aNoPart s C PO := h0
def kPart (PO : Option Int → AH → Prop) : D → AH → Prop := fun x C1 => match x with | .int i => PO (some i) C1 | _ => False
theorem g_part (h0 : e s C (kPart PO)) : aPart e s C PO := (congrArg (e s C) (by funext x C1; cases x <;> rfl)).mpr h0
theorem g_kPart {i : Int} (h0 : PO (some i) C) : kPart PO (.int i) C := h0
theorem cutD_drop (ds : List D) (j : Nat) : cutD ds (some (j : Int)) none = ds.drop j := by
  unfold cutD
  rw [HT.sIx_none, HT.sIx_nat]
  by_cases hj : j ≤ ds.length
  · rw [Nat.min_eq_left hj, List.take_of_length_le (by rw [List.length_drop]; omega)]
  · rw [Nat.min_eq_right (by omega), List.drop_eq_nil_of_le (Nat.le_refl _), List.drop_eq_nil_of_le (by omega)]
    simp
end
end AL
namespace AL
open PySem PySem.Spec PyProof.Rows L2
variable {B : Bs}
section
variable {X : Cx} {K : PySem.W.Frag}
def signsV (z : Str) : List V := z.cps.toList.map fun c => V.str ⟨#[c]⟩
def kLstS (x : V) (H : Hp) (Q : VK) : Prop := ∃ z, x = .str z ∧ z.cps.size ≤ sizeLine ∧ ∀ q, H q = none → Q (.ref q) (upd H q (.lst (signsV z)))
theorem rl_listS (hc : X.calm = true) (pins : List (Addr × Obj)) (s : Shared) (σ : L2.St) (H : Hp) (x : V) (v : Value) (Q : VK) (I : Inv X pins σ H s) (r : RelV x v) (h : kLstS x H Q) :
    wpAny (model X.prog X.w) X.A (call (.type "list") [v]) (EP X pins σ Q) X.xe s := by
  obtain ⟨z, rfl, hz, q⟩ := h
  obtain ⟨t, rfl⟩ := r
  refine PySem.call_list_str (I.ok.hd hc) z t (hn := hz) fun h' tk acc c' hk e hi => ?_
  refine ⟨.ref s.heap.objs.size, upd H s.heap.objs.size (.lst (signsV z)), I.laid hk (Nat.le_refl _) ⟨by unfold signsV; rw [List.length_map, Array.length_toList]; exact hz, acc.toList, c', ?_, by rw [Array.toArray_toList]; exact e⟩, rfl, q _ (I.hok.fresh (Nat.le_refl _))⟩
  refine vals_of_idx _ _ (by unfold signsV; rw [List.length_map, Array.length_toList, Array.length_toList]; exact hi.1) fun j u hj => ?_
  obtain ⟨c, t', hc, rfl⟩ := hi.2 j u (by rw [← Array.getElem?_toList]; exact hj)
  refine ⟨.str ⟨#[c]⟩, ?_, ⟨_, rfl⟩⟩
  unfold signsV
  rw [List.getElem?_map, Array.getElem?_toList, hc]
  rfl
theorem signs_rep {F : Hp} (z : Str) : RepL K F (signsV z) (signs z) := by
  unfold signsV signs
  induction z.cps.toList with
  | nil => exact .nil
  | cons c l ih => exact .cons (.str _) ih
def aListS : ASp := fun ds C P => match ds with | [.str z] => z.cps.size ≤ sizeLine ∧ P (.lst (signs z)) C | _ => False
theorem ac_listS (hc : X.calm = true := by rfl) : ACa B X (.type "list") (r1 kLstS) aListS := ⟨call_r1 (rl_listS hc), by
  intro vs ds F C R H Q P hS r h k
  unfold aListS at h
  split at h
  · cases r with
    | cons r1 r2 =>
      cases r2
      cases r1
      refine ⟨_, rfl, h.1, fun p hp => ?_⟩
      rename_i z
      have e := Ex.new (o := .lst (signsV z)) (hS.freeF hp)
      exact k _ _ _ C _ e (hS.newF hp _) (.lst upd_same ((signs_rep _).mono e)) h.2
  · exact h.elim⟩
def aJoin : D → ASp := fun x ds C P => match x, ds with
  | .str a, [d] => (match (asS C d).bind strsD with | some ys => (ys.map (·.length)).sum + ys.length * a.length ≤ 16777216 ∧ P (.str (Txt.join a ys)) C | none => False)
  | _, _ => False
theorem am_join (hK : X.K = K := by rfl) : AMt B X "str.join" (fun x xs H Q => ∃ a p, ∃ ys : List Str, x = .str a ∧ xs = [.ref p] ∧ (SqL K H p (ys.map V.str) ∨ SqT K H p (ys.map V.str)) ∧
    (ys.map (·.length)).sum + ys.length * a.length ≤ 16777216 ∧ Q (.str (Txt.join a ys)) H) aJoin := by
  subst hK
  exact ⟨fun pins s σ H x xs v us Q I r1 r2 h => mt_join pins s σ H x xs v us Q I r1 r2 h, by
  intro v d vs ds F C R H Q P hS r1 r2 h k
  unfold aJoin at h
  split at h
  · cases r1
    cases r2 with
    | cons r2 r3 =>
      cases r3
      split at h
      · rename_i ys e
        obtain ⟨us, e1, e2⟩ := Option.bind_eq_some_iff.mp e
        obtain ⟨a, xs, e3, h1, h2⟩ := asS_ok hS r2 e1
        have e4 := strs_ok e2
        subst e4
        have e5 := h2.ofStrs
        subst e5
        exact ⟨_, a, ys, rfl, by rw [e3], h1, h.1, k _ _ F C H (Ex.refl F) hS (.str _) h.2⟩
      · exact h.elim
  · exact h.elim⟩
def toV : D → Option V
  | .non => some .non
  | .bl b => some (.bl b)
  | .int i => some (.int i)
  | .str x => some (.str x)
  | _ => none
def toVs : List D → Option (List V)
  | [] => some []
  | d :: ds => match toV d, toVs ds with | some v, some vs => some (v :: vs) | _, _ => none
theorem toV_ok {F : Hp} {v u : V} {d : D} (r : Rep K F v d) (h : toV d = some u) : v = u ∧ flatV u = true := by
  cases r <;> simp [toV] at h <;> subst h <;> exact ⟨rfl, rfl⟩
theorem toVs_ok {F : Hp} : ∀ {vs us : List V} {ds : List D}, RepL K F vs ds → toVs ds = some us → vs = us ∧ us.all flatV = true
  | _, _, _, .nil, h => by cases h; exact ⟨rfl, rfl⟩
  | _, us, d :: ds, .cons r t, h => by
    unfold toVs at h
    split at h
    · rename_i v vs e1 e2
      cases h
      obtain ⟨a1, a2⟩ := toV_ok r e1
      obtain ⟨b1, b2⟩ := toVs_ok t e2
      subst a1 b1
      exact ⟨rfl, by simp [a2, b2]⟩
    · cases h
def aIn (neg : Bool) : D → D → AH → (D → AH → Prop) → Prop := fun x y C P => match toV x, (asS C y).bind toVs with
  | some u, some us => P (.bl (if neg then !inV u us else inV u us)) C
  | _, _ => False
abbrev aInL := aIn false
theorem sim_in (neg : Bool) : SimR2 B K (rIn K neg) (aIn neg) := by
  intro v w d e F C R H Q P hS r1 r2 h k
  unfold aIn at h
  split at h
  · rename_i u us e1 e2
    obtain ⟨ds, e3, e4⟩ := Option.bind_eq_some_iff.mp e2
    obtain ⟨a, xs, rfl, h1, h2⟩ := asS_ok hS r2 e3
    obtain ⟨a1, a2⟩ := toV_ok r1 e1
    obtain ⟨b1, b2⟩ := toVs_ok h2 e4
    subst a1 b1
    exact ⟨a, xs, rfl, h1, a2, b2, k _ _ F C H (Ex.refl F) hS (.bl _) h⟩
  · exact h.elim
theorem ao_inL (hK : X.K = K := by rfl) : AOp B X (compareOp .In) (rIn K false) aInL := by subst hK; exact ⟨op_in_seq, sim_in false⟩
def aNoS : AS' := fun _ _ _ => False
end
section
variable {s : ASt} {C : AH} {P : D → AH → Prop}
theorem g_listS {z : Str} (h1 : z.cps.size ≤ sizeLine) (h : P (.lst (signs z)) C) : aListS [.str z] C P := ⟨h1, h⟩
theorem g_joinL {a : Str} {ys : List Str} (h1 : (ys.map (·.length)).sum + ys.length * a.length ≤ 16777216) (h : P (.str (Txt.join a ys)) C) : aJoin (.str a) [.lst (ys.map D.str)] C P := by
  show (match strsD (ys.map D.str) with | some ys => _ | none => False)
  rw [strs_map]
  exact ⟨h1, h⟩
theorem g_joinT {a : Str} {ys : List Str} (h1 : (ys.map (·.length)).sum + ys.length * a.length ≤ 16777216) (h : P (.str (Txt.join a ys)) C) : aJoin (.str a) [.tup (ys.map D.str)] C P := by
  show (match strsD (ys.map D.str) with | some ys => _ | none => False)
  rw [strs_map]
  exact ⟨h1, h⟩
end
end AL
namespace AL
open PySem PySem.Spec L2
variable {B : Bs}
theorem ass_no {X : Cx} {st : List Stmt} : ASs B X st (fun _ _ _ => False) aNoS := ⟨⟨fun _ _ _ _ _ _ h => h.elim⟩, fun _ _ _ _ _ _ _ _ _ _ _ h => h.elim⟩
end AL
namespace AL
open PySem PySem.Spec PyProof.Rows L2
variable {B : Bs}
def okS (z : Str) : Prop := ∀ c ∈ z.cps.toList, c < 0x110000
def One (z : Str) : Prop := ∃ c : Nat, z = ⟨#[c]⟩ ∧ c < 0x110000
abbrev strsL (ys : List Str) : List D := ys.map D.str
def chars (z : Str) : List Str := z.cps.toList.map fun c => ⟨#[c]⟩
theorem len_toList (z : Str) : z.cps.toList.length = z.length := Array.length_toList
theorem One.len {z : Str} (h : One z) : z.length = 1 := by obtain ⟨c, rfl, _⟩ := h; rfl
theorem One.ok {z : Str} (h : One z) : okS z := by
  obtain ⟨c, rfl, hc⟩ := h
  intro d hd
  have : d = c := by simpa using hd
  rw [this]; exact hc
theorem joinL_nil : ∀ ps : List (List Nat), TL.joinL [] ps = ps.flatten
  | [] => rfl
  | [p] => by simp [TL.joinL]
  | p :: q :: r => by
    show p ++ ([] ++ TL.joinL [] (q :: r)) = _
    rw [joinL_nil (q :: r), List.nil_append]
    simp
theorem join_toList (ys : List Str) : (Txt.join "" ys).cps.toList = (ys.map fun y => y.cps.toList).flatten := by
  rw [TL.join_eq]
  have h := TL.tl_join "" ys
  have e : TL.tl "" = [] := by decide +kernel
  rw [e, joinL_nil] at h
  exact h
theorem join_len (ys : List Str) : (Txt.join "" ys).length = (ys.map (·.length)).sum := by
  rw [← len_toList, join_toList, List.length_flatten, List.map_map]
  congr 1
section
variable {C : AH} {P : D → AH → Prop}
theorem len_empty : ("" : Str).length = 0 := by decide +kernel
theorem g_joinET {ys : List Str} (h1 : (ys.map (·.length)).sum ≤ 16777216) (h : P (.str (Txt.join "" ys)) C) : aJoin (.str "") [.tup (strsL ys)] C P := g_joinT (by rw [len_empty]; omega) h
end
end AL
namespace AL
open PySem PySem.Spec PyProof.Rows L2
variable {B : Bs}
section
variable {X : Cx} {K : PySem.W.Frag}
def revS (z : Str) : Str := ⟨((PySem.Builtin.Str.strSliceIndices none none (-1) z.length).filterMap (z.cps[·]?)).toArray⟩
theorem revS_toList (z : Str) : (revS z).cps.toList = z.cps.toList.reverse := by
  unfold revS
  rw [List.toList_toArray, PyProof.Rows.picked_rev, PyProof.Rows.filterMap_get]
  · rw [List.map_map]
    refine List.ext_getElem (by simp [Str.length]) fun i h1 h2 => ?_
    have hi : i < z.cps.size := by simpa [Str.length] using h1
    simp only [List.getElem_map, List.getElem_range, Function.comp, List.getElem_reverse, Array.getElem_toList, Array.length_toList]
    have hj : z.length - 1 - i < z.cps.size := by show z.cps.size - 1 - i < _; omega
    rw [Array.getD, dif_pos hj]
    rfl
  · intro i hi
    obtain ⟨k, hk, rfl⟩ := List.mem_map.mp hi
    have hk' : k < z.length := List.mem_range.mp hk
    show z.length - 1 - k < z.length
    omega
theorem revS_len (z : Str) : (revS z).length = z.length := by rw [← len_toList, revS_toList, List.length_reverse, len_toList]
def tRevS (te : TE) : TE := fun σ H Q => te σ H fun x H1 => ∃ z, x = .str z ∧ z.length ≤ sizeLine ∧ Q (.str (revS z)) H1
theorem pe_revS {e : Expr} {te : TE} {k : Nat} {p1 p2 p3 pos : Pos} (he : PE X e te) : PE X (.Subscript e (.Slice none none (some (.UnaryOp .USub (.Constant (.int 1) k p1) p2)) p3) pos) (tRevS te) := by
  refine ⟨fun pins s σ H Q I h => ?_⟩
  refine Subscript_ (thn (he.run pins s σ H _ I h) fun v s1 ⟨x, H1, I1, r1, q1⟩ => ?_)
  obtain ⟨z, ex, hz, q⟩ := q1
  subst ex
  obtain ⟨t, rfl⟩ := r1
  have hst : PO X (some (.UnaryOp .USub (.Constant (.int 1) k p1) p2)) (tPart (tUn (rU fun i => .int (-i)) (tC (.int 1)))) := po_some (pe_un un_neg pe_int)
  refine wpAny_Slice (thn (po_none.run pins s1 σ H1 (fun o H2 => o = none ∧ H2 = H1) I1 ⟨rfl, rfl⟩) fun vl s2 ⟨l, H2, I2, pl, el, e2⟩ => ?_)
  subst el e2
  refine thn (po_none.run pins s2 σ H2 (fun o H3 => o = none ∧ H3 = H2) I2 ⟨rfl, rfl⟩) fun vu s3 ⟨u, H3, I3, pu, eu, e3⟩ => ?_
  subst eu e3
  refine thn (hst.run pins s3 σ H3 (fun o H4 => o = some (-1) ∧ H4 = H3) I3 ⟨1, rfl, -1, rfl, rfl, rfl⟩) fun vs s4 ⟨o, H4, I4, ps, eo, e4⟩ => ?_
  subst eo e4
  have I5 : Inv X pins σ H4 { s4 with heap := s4.heap.push { cls := .type "slice", data := .fields #[vl, vu, vs] } } := I4.kept (t' := s4.toks) fun b ob q => Heap.get?_push_of_some _ q
  obtain ⟨l, rfl, e1⟩ := IsPart.raw pl
  obtain ⟨u, rfl, e2⟩ := IsPart.raw pu
  obtain ⟨w, rfl, e3⟩ := IsPart.raw ps
  show wpAny (model X.prog X.w) X.A (subscriptTail e (.Slice none none (some (.UnaryOp .USub (.Constant (.int 1) k p1) p2)) p3) (.str z t) (.ref s4.heap.objs.size)) (EP X pins σ Q) X.xe { s4 with heap := s4.heap.push { cls := .type "slice", data := .fields #[partValue l, partValue u, partValue w] } }
  refine tail_any (ops := [.str z t, .ref s4.heap.objs.size]) (typeIs_str _ _ _) (PySem.F.slot_str_getitem.lookup) ?_ (by with_unfolding_all rfl)
  refine wpAny_getItem_str_slice (l := l) (u := u) (st := w) ⟨_, Heap.get?_push_size _ rfl, rfl, rfl⟩ ?_ ?_
  · rw [e3]; rfl
  · have hl : (revS z).length ≤ sizeLine := by rw [revS_len]; exact hz
    unfold sliceMade slicePicked
    rw [e1, e2, e3]
    rw [if_neg (by simp)]
    exact ⟨hl, .str _, H4, I5.tok _, ⟨_, rfl⟩, q⟩
def aRevS : D → AH → (D → AH → Prop) → Prop := fun x C P => match x with | .str z => z.length ≤ sizeLine ∧ P (.str (revS z)) C | _ => False
theorem ae_revS {pos : Pos} {e : Expr} {te : TE} {a : AE'} {k : Nat} {p1 p2 p3 : Pos} (he : AE B X e te a) : AE B X (.Subscript e (.Slice none none (some (.UnaryOp .USub (.Constant (.int 1) k p1) p2)) p3) pos) (tRevS te) (aUn aRevS a) :=
  ⟨pe_revS he.pe, by
  intro σ s F C R H Q P hs hS h0 k
  refine he.sim σ s F C R H _ _ hs hS h0 fun x v F1 C1 H1 e1 S1 r1 h1 => ?_
  unfold aRevS at h1
  split at h1
  · cases r1
    exact ⟨_, rfl, h1.1, k _ _ F1 C1 H1 e1 S1 (.str _) h1.2⟩
  · exact h1.elim⟩
end
end AL
namespace HT
open PySem PySem.Spec PyProof.Rows L2
section
variable {prog : Program} {w : World} {A : Around} {E : Value → Shared → Prop} {s : Shared}
theorem sliceApplied_rev {sl : Addr} {vl vu vs : Value} {n : Nat} {Q : Int × Int × Nat → Shared → Prop} (hs : s.heap.IsSliceOf sl vl vu vs) (pl : IsPart vl none) (pu : IsPart vu none) (ps : IsPart vs (some (-1)))
    (h : Q ((n : Int) - 1, -1, n) s) : wpAny (model prog w) A (Builtin.Slice.sliceApplied (.ref sl) (pure (n : Int))) Q E s := by
  obtain ⟨os, hos, hcs, hds⟩ := id hs
  unfold Builtin.Slice.sliceApplied Builtin.Slice.sliceFields
  refine wpAny_bind (wpAny_bind (wpAny_field hos hds (x := vl) rfl (wpAny_bind (wpAny_field hos hds (x := vu) rfl (wpAny_bind (wpAny_field hos hds (x := vs) rfl (wpAny_pure ?_)))))))
  refine wpAny_bind (slicePart_ ps ?_)
  show wpAny _ _ (if ((-1 : Int) == 0) = true then _ else _) _ _ s
  rw [if_neg (by decide)]
  refine wpAny_bind (slicePart_ pl (wpAny_bind (slicePart_ pu (wpAny_bind (wpAny_pure ?_)))))
  show wpAny _ _ (match Builtin.Slice.sliceAdjust none none (-1) (n : Int) with | (lo, hi) => pure (lo, (-1 : Int), Builtin.Slice.slicePlaces lo hi (-1))) _ _ s
  have e : Builtin.Slice.sliceAdjust none none (-1) (n : Int) = ((n : Int) - 1, -1) := by
    unfold Builtin.Slice.sliceAdjust
    simp
  have e2 : Builtin.Slice.slicePlaces ((n : Int) - 1) (-1) (-1) = n := by
    unfold Builtin.Slice.slicePlaces
    simp
    omega
  rw [e]
  show wpAny _ _ (pure ((n : Int) - 1, (-1 : Int), Builtin.Slice.slicePlaces ((n : Int) - 1) (-1) (-1))) _ _ s
  rw [e2]
  exact wpAny_pure h
theorem fmap_some {α β : Type} {f : α → Option β} {g : α → β} : ∀ {l : List α}, (∀ m ∈ l, f m = some (g m)) → l.filterMap f = l.map g
  | [], _ => rfl
  | m :: l, h => by
    rw [List.filterMap_cons, h m (List.mem_cons_self ..), List.map_cons, fmap_some fun k hk => h k (List.mem_cons_of_mem _ hk)]
theorem pick_rev (xs : Array Value) : ((List.range xs.size).filterMap fun (m : Nat) => xs[(((xs.size : Nat) : Int) - 1 + (m : Int) * (-1)).toNat]?).toArray = xs.toList.reverse.toArray := by
  congr 1
  have e : ∀ m ∈ List.range xs.size, xs[(((xs.size : Nat) : Int) - 1 + (m : Int) * (-1)).toNat]? = some (xs.toList.reverse.getD m .none) := by
    intro m hm
    have hm' : m < xs.size := List.mem_range.mp hm
    have e1 : (((xs.size : Nat) : Int) - 1 + (m : Int) * (-1)).toNat = xs.size - 1 - m := by omega
    have h2 : xs.size - 1 - m < xs.size := by omega
    have h3 : m < xs.toList.reverse.length := by rw [List.length_reverse, Array.length_toList]; exact hm'
    rw [e1, Array.getElem?_eq_getElem h2, List.getD, List.getElem?_eq_getElem h3]
    simp
  rw [fmap_some e]
  refine List.ext_getElem (by simp) fun i h1 h2 => ?_
  simp [List.getD, List.getElem?_eq_getElem h2]
theorem getItem_tuple_rev {t sl : Addr} {items : Array Value} {vl vu vs : Value} {Q : Value → Shared → Prop} (ht : IsTup s.heap t items) (hs : s.heap.IsSliceOf sl vl vu vs) (pl : IsPart vl none) (pu : IsPart vu none) (ps : IsPart vs (some (-1)))
    (h : Q (.ref s.heap.objs.size) { s with heap := s.heap.push { cls := .type "tuple", data := .seq items.toList.reverse.toArray } }) (hsz : items.size ≤ sizeLine) : wpAny (model prog w) A (getItem (.ref t) (.ref sl)) Q E s := by
  have htake : sizeOk (.seq items.toList.reverse.toArray) := by
    show items.toList.reverse.toArray.size ≤ sizeLine
    rw [List.size_toArray, List.length_reverse, Array.length_toList]
    exact hsz
  obtain ⟨os, hos, hcs, hds⟩ := id hs
  have hTs : s.TypeIs (.ref sl) "slice" := ⟨os, hos, hcs⟩
  unfold getItem
  try with_reducible refine wpAny_holding ?_
  first | refine wpAny_bind (wpAny_pure ?_) | skip
  refine wpAny_bind (wpAny_sequenceKey ht.typeIs (by decide) ?_)
  refine wpAny_bind (wpAny_callSpecial?_slot (name := Str.ofString "__getitem__") ht.typeIs PyProof.Rows.slot_tuple_getitem
    (wpAny_call_entry PyProof.Rows.slot_tuple_getitem ht.typeIs entry_tuple_getitem ?_ (args_tuple_getitem _ _)))
  show wpAny _ _ (Builtin.Tuple.tupleItemsOf (.ref t) >>= _) _ _ s
  refine wpAny_bind (tupleItemsOf_ ht ?_)
  refine wpAny_bind (wpAny_typeOf hTs ?_)
  rw [if_pos (by decide)]
  refine wpAny_bind (sliceApplied_rev hs pl pu ps ?_)
  have hno : ¬ ((((items.size : Nat) : Int) - 1 == 0 && (-1 : Int) == 1 && items.size == items.size) = true) := by
    intro q
    rw [Bool.and_eq_true, Bool.and_eq_true] at q
    exact absurd q.1.2 (by decide)
  show wpAny _ _ (if (((items.size : Nat) : Int) - 1 == 0 && (-1 : Int) == 1 && items.size == items.size) = true then _ else _) _ _ s
  rw [if_neg hno, pick_rev]
  first
    | exact wpAny_bind (m := Builtin.Tuple.tupleExact _) (wpAny_newObj_type (wpAny_pure ⟨_, rfl, wpAny_pure h⟩) htake)
    | exact wpAny_bind (m := Builtin.Tuple.tupleExact _) (wpAny_newObj_type (wpAny_bind (wpAny_pure (wpAny_pure ⟨_, rfl, wpAny_pure h⟩))) htake)
    | exact wpAny_bind (wpAny_bind (m := Builtin.Tuple.tupleExact _) (wpAny_newObj_type (wpAny_pure (wpAny_pure ⟨_, rfl, wpAny_pure h⟩)) htake))
    | exact wpAny_bind (wpAny_bind (m := Builtin.Tuple.tupleExact _) (wpAny_newObj_type (wpAny_pure ⟨_, rfl, wpAny_pure h⟩) htake))
end
end HT
namespace AL
open PySem PySem.Spec PyProof.Rows L2
variable {B : Bs}
section
variable {X : Cx} {K : PySem.W.Frag}
/-- t[::-1] of a tuple -/
def tRevT (K : PySem.W.Frag) (te : TE) : TE := fun σ H Q => te σ H fun x H1 => ∃ a xs, x = .ref a ∧ SqT K H1 a xs ∧ NewT xs.reverse Q H1
theorem pe_revT {e : Expr} {te : TE} {k : Nat} {p1 p2 p3 pos : Pos} (he : PE X e te) : PE X (.Subscript e (.Slice none none (some (.UnaryOp .USub (.Constant (.int 1) k p1) p2)) p3) pos) (tRevT X.K te) := by
  refine ⟨fun pins s σ H Q I h => ?_⟩
  refine Subscript_ (thn (he.run pins s σ H _ I h) fun v s1 ⟨x, H1, I1, r1, q1⟩ => ?_)
  obtain ⟨a, xs, ex, hx, q⟩ := q1
  subst ex
  cases r1
  have hst : PO X (some (.UnaryOp .USub (.Constant (.int 1) k p1) p2)) (tPart (tUn (rU fun i => .int (-i)) (tC (.int 1)))) := po_some (pe_un un_neg pe_int)
  refine wpAny_Slice (thn (po_none.run pins s1 σ H1 (fun o H2 => o = none ∧ H2 = H1) I1 ⟨rfl, rfl⟩) fun vl s2 ⟨l, H2, I2, pl, el, e2⟩ => ?_)
  subst el e2
  refine thn (po_none.run pins s2 σ H2 (fun o H3 => o = none ∧ H3 = H2) I2 ⟨rfl, rfl⟩) fun vu s3 ⟨u, H3, I3, pu, eu, e3⟩ => ?_
  subst eu e3
  refine thn (hst.run pins s3 σ H3 (fun o H4 => o = some (-1) ∧ H4 = H3) I3 ⟨1, rfl, -1, rfl, rfl, rfl⟩) fun vs s4 ⟨o, H4, I4, ps, eo, e4⟩ => ?_
  subst eo e4
  have I5 : Inv X pins σ H4 { s4 with heap := s4.heap.push { cls := .type "slice", data := .fields #[vl, vu, vs] } } := I4.kept (t' := s4.toks) fun b ob q => Heap.get?_push_of_some _ q
  obtain ⟨its, r, ht, hz⟩ := I5.tuple hx
  have hlen := r.length
  show wpAny (model X.prog X.w) X.A (subscriptTail e (.Slice none none (some (.UnaryOp .USub (.Constant (.int 1) k p1) p2)) p3) (.ref a) (.ref s4.heap.objs.size)) (EP X pins σ Q) X.xe { s4 with heap := s4.heap.push { cls := .type "slice", data := .fields #[vl, vu, vs] } }
  refine tail_any (ops := [.ref a, .ref s4.heap.objs.size]) ht.typeIs (PyProof.Rows.slot_tuple_getitem.lookup) ?_ (by with_unfolding_all rfl)
  refine HT.getItem_tuple_rev ht (Heap.IsSliceOf.new _ vl vu vs) pl pu ps ?_ (by rw [List.size_toArray]; omega)
  exact laidT (tk := s4.toks) I5 (by rw [List.length_reverse]; exact hz) r.reverse q
def aRevT : D → AH → (D → AH → Prop) → Prop := fun x C P => match asT x with | some ds => P (.tup ds.reverse) C | none => False
theorem ae_revT {pos : Pos} {e : Expr} {te : TE} {a : AE'} {k : Nat} {p1 p2 p3 : Pos} (he : AE B X e te a) (hK : X.K = K := by rfl) : AE B X (.Subscript e (.Slice none none (some (.UnaryOp .USub (.Constant (.int 1) k p1) p2)) p3) pos) (tRevT K te) (aUn aRevT a) := by
  subst hK
  exact ⟨pe_revT he.pe, by
  intro σ s F C R H Q P hs hS h0 k
  refine he.sim σ s F C R H _ _ hs hS h0 fun x v F1 C1 H1 e1 S1 r1 h1 => ?_
  unfold aRevT at h1
  split at h1
  · rename_i ds q
    obtain ⟨a, xs, e2, h2, h3⟩ := asT_ok S1 r1 q
    refine ⟨a, xs, e2, SqT.of h2, fun p ob hob hp => ?_⟩
    have e := Ex.new (o := .frz ob (.tup xs.reverse)) (S1.freeF hp)
    exact k _ _ _ C1 _ (e1.trans e) (S1.newF hp _) (.tup (.frz hob upd_same) (h3.reverse.mono e)) h1
  · exact h1.elim⟩
variable {C : AH} {P : D → AH → Prop}
theorem g_revS {z : Str} (h1 : z.length ≤ sizeLine) (h : P (.str (revS z)) C) : aRevS (.str z) C P := ⟨h1, h⟩
theorem g_revT {ds : List D} (h : P (.tup ds.reverse) C) : aRevT (.tup ds) C P := h
end
end AL
namespace AL
open PySem PySem.Spec PyProof.Rows L2
end AL
namespace AL
open PySem PySem.Spec PyProof.Rows L2
end AL
namespace AL
open PySem
def Keep (C C' : AH) : Prop := ∀ r c, C r = some c → C' r = some c
theorem Keep.refl (C : AH) : Keep C C := fun _ _ h => h
theorem Keep.trans {C C1 C2 : AH} (a : Keep C C1) (b : Keep C1 C2) : Keep C C2 := fun r c h => b r c (a r c h)
theorem Keep.put {C C' : AH} {q : Addr} {c : Cell} (h : Keep C C') (hq : C q = none) : Keep C (AL.put C' q c) := fun r d e => by rw [put_ne (ne_cell e hq)]; exact h r d e
theorem Keep.del {C C' : AH} {q : Addr} (h : Keep C C') (hq : C q = none) : Keep C (AL.del C' q) := fun r d e => by
  unfold AL.del
  rw [if_neg (ne_cell e hq)]
  exact h r d e
theorem Keep.none {C C' : AH} {q : Addr} (h : Keep C C') (hq : C' q = Option.none) : C q = Option.none := by
  cases e : C q with
  | none => rfl
  | some c => rw [h q c e] at hq; cases hq
/-- all but p -/
def Oth (p : Addr) (C C' : AH) : Prop := ∀ r c, r ≠ p → C r = some c → C' r = some c
theorem Oth.refl (p : Addr) (C : AH) : Oth p C C := fun _ _ _ h => h
theorem Oth.trans {p : Addr} {C C1 C2 : AH} (a : Oth p C C1) (b : Oth p C1 C2) : Oth p C C2 := fun r c n h => b r c n (a r c n h)
theorem Oth.of {p : Addr} {C C' : AH} (a : Keep C C') : Oth p C C' := fun r c _ h => a r c h
theorem Oth.pen {p : Addr} {C C' : AH} {c : Cell} (h : Oth p C C') : Oth p C (AL.put C' p c) := fun r d n e => by rw [put_ne n]; exact h r d n e
theorem Oth.put {p q : Addr} {C C' : AH} {c : Cell} (h : Oth p C C') (hq : C q = none) : Oth p C (AL.put C' q c) := fun r d n e => by rw [put_ne (ne_cell e hq)]; exact h r d n e
theorem Oth.del {p q : Addr} {C C' : AH} (h : Oth p C C') (hq : C q = none) : Oth p C (AL.del C' q) := fun r d n e => by
  unfold AL.del
  rw [if_neg (ne_cell e hq)]
  exact h r d n e
theorem Oth.none {p q : Addr} {C C' : AH} (h : Oth p C C') (hn : q ≠ p) (hq : C' q = Option.none) : C q = Option.none := by
  cases e : C q with
  | none => rfl
  | some c => rw [h q c hn e] at hq; cases hq
end AL
namespace AL
open PySem PySem.Spec PyProof.Rows L2
section
variable {P : Program} {w : World} {K : PySem.W.Frag} {mg mb : Str → Option Value} {k : Nat} {fa a : Addr} {fd : FuncData} {x : Str} {sp : Sp} {s₁ : Shared} {vs : List Value} {ns : List Int}
theorem core_G (hns : s₁.heap.Ns mainGlobals mg) (hb : s₁.heap.Ns builtinsNs mb) (hbb : ∀ x : Str, x ≠ "__name__" → mb x = bootBuiltins x) (hlim : s₁.heap.NoLimit) (hg : s₁.gens = #[]) (KX : K.In s₁.heap)
    (ha : s₁.heap.get? a = some { cls := .type "list", data := .seq vs.toArray }) (hr : Room k callerA)
    (F : ∀ base : Heap, K.In base → base.Ns mainGlobals mg → FnG P w K mg base k fa fd [x] sp) (hbind : ∀ (s : Shared) (u : Value), BindsTo s fd ⟨[u], []⟩ [(x, u)])
    {H : Hp} (hO : Only H) (hsp : sp [.ref a] H (fun v _ => v = .bl true) fun _ _ _ => False) (hok : HOk P w H s₁.heap) (hA : ∀ b, H b ≠ none → b = a) (hK : H a ≠ none → K.lookup a = none) :
    codeAny (model P w) callerA (.call (.ref fa) ⟨[.ref a], []⟩) (fun r s' => r = .ok (.ret (.bool true)) ∧ OldK s₁.heap s'.heap ∧ s'.os = s₁.os ∧ AllBare s'.gens) s₁ := by
  have free : ∀ {b : Addr} {o : Obj}, s₁.heap.get? b = some o → (b = a → False) → H b = none := fun {b o} e n => by
    cases q : H b with
    | none => rfl
    | some u => exact (n (hA b (by rw [q]; simp))).elim
  have dictFree : ∀ {b : Addr} {m : Str → Option Value}, s₁.heap.Ns b m → (hidT s₁.heap H).Ns b m := by
    rintro b m ⟨o, es, ep, e, d, r⟩
    refine ⟨o, es, ep, hidT_get e (free e fun z => ?_), d, r⟩
    subst z
    rw [ha] at e
    cases e
    cases (show Data.seq vs.toArray _ = Data.dict es ep from d)
  have kin : K.In (hidT s₁.heap H) := fun b o e => hidT_get (KX b o e) (by
    cases q : H b with
    | none => rfl
    | some u =>
      have z : b = a := hA b (by rw [q]; simp)
      subst z
      rw [hK (by rw [q]; simp)] at e
      cases e)
  obtain ⟨mc, l1, l2⟩ := hlim
  have md : Mod K mg (hidT s₁.heap H) := ⟨kin, dictFree hns, ⟨mb, dictFree hb, hbb⟩, ⟨mc, dictFree l1, l2⟩⟩
  have e0 : Env0 P w K mg (hidT s₁.heap H) callerA [] s₁ H :=
    { frames := rfl, mod := md, bs := fun b o e => of_hidT e, bsz := Nat.le_of_eq (hidT_size _ _), funs := trivial, frf := fun b z => (by cases z), hok := hok, bare := .of_eq hg }
  refine codeAny_mono ((F _ kin (dictFree hns)).run callerA [] s₁ H ⟨[.ref a], []⟩ [.ref a] [.ref a] _ _ hr rfl e0 (hbind s₁ (.ref a)) (.cons rfl .nil) hsp) fun res s2 z => ?_
  match res, z with
  | .error e, z =>
    obtain ⟨_, _, _, _, _, _, _, _, _, _, _, _, z⟩ := z
    exact z.elim
  | .ok .next, z => exact False.elim z
  | .ok .brk, z => exact False.elim z
  | .ok .cont, z => exact False.elim z
  | .ok (.ret u), z =>
    obtain ⟨v, H2, os, bare, un, hok2, r, q⟩ := z
    cases (show v = .bl true from q)
    obtain rfl : u = Value.bool true := r
    refine ⟨rfl, OldK.of_keep fun b o e => ?_, os, bare⟩
    rcases hO b with z | ⟨ob, xs, z⟩
    · exact un.keep b o e z (by intro y; cases y) (by simp)
    · have e1 := (hok b _ z).1
      have e2 := (hok2 b _ (un.frzs b ob _ z)).1
      rw [e] at e1
      cases e1
      exact e2
theorem law_G (KX : K.In s₁.heap) (hns : s₁.heap.Ns mainGlobals mg) (hb : s₁.heap.Ns builtinsNs mb) (hbb : ∀ x : Str, x ≠ "__name__" → mb x = bootBuiltins x) (hlim : s₁.heap.NoLimit) (hg : s₁.gens = #[])
    (ha : s₁.heap.get? a = some { cls := .type "list", data := .seq vs.toArray }) (hi : IntsAre vs ns) (hl : ns.length ≤ sizeLine) (hr : Room k callerA)
    (F : ∀ base : Heap, K.In base → base.Ns mainGlobals mg → FnG P w K mg base k fa fd [x] sp) (hbind : ∀ (s : Shared) (u : Value), BindsTo s fd ⟨[u], []⟩ [(x, u)])
    (hsp : ∀ H : Hp, Only H → SqL K H a (ns.map V.int) → sp [.ref a] H (fun v _ => v = .bl true) fun _ _ _ => False) :
    codeAny (model P w) callerA (.call (.ref fa) ⟨[.ref a], []⟩) (fun r s' => r = .ok (.ret (.bool true)) ∧ OldK s₁.heap s'.heap ∧ s'.os = s₁.os ∧ AllBare s'.gens) s₁ := by
  have go := fun {H : Hp} (hO : Only H) (hS : SqL K H a (ns.map V.int)) => core_G hns hb hbb hlim hg KX ha hr F hbind hO (hsp H hO hS)
  cases hk : K.lookup a with
  | some o =>
    have e := KX a o hk
    rw [ha] at e
    cases e
    refine go (H := fun _ => none) (fun _ => .inl rfl) (.inr ⟨_, vs.toArray, _, hk, rfl, rfl, rfl, ?_, ?_⟩) (fun b u z => ?_) (fun b z => (z rfl).elim) fun z => (z rfl).elim
    · rw [List.size_toArray, hi.length]; exact hl
    · simpa using vals_ints hi
    · cases (show (none : Option HO) = some u from z)
  | none =>
    let oL : Obj := { cls := .type "list", data := .seq vs.toArray }
    let H0 : Hp := fun b => if b = a then some (.frz oL (.lst (ns.map V.int))) else none
    have at_a : H0 a = some (.frz oL (.lst (ns.map V.int))) := if_pos rfl
    have off : ∀ b, b ≠ a → H0 b = none := fun b n => if_neg n
    refine go (H := H0) (fun b => ?_) (.inl (.inr ⟨oL, at_a⟩)) (fun b u z => ?_) (fun b z => ?_) fun _ => hk
    · by_cases n : b = a
      · rw [n]; exact .inr ⟨_, _, at_a⟩
      · exact .inl (off b n)
    · by_cases n : b = a
      · subst n
        rw [at_a] at z
        cases z
        exact ⟨ha, by rw [List.length_map]; exact hl, vs, _, vals_ints hi, ha⟩
      · rw [off b n] at z; cases z
    · by_cases n : b = a
      · exact n
      · exact (z (off b n)).elim
end
theorem walk_G {l : PySem.W.OpenLaw} {n k : Nat} {q : Program} {loose : List Str} {XP : (Str → Option Value) → Heap → Prop} {YP : World → Heap → Prop} {d : DefRec} {K : Params → PySem.W.Frag} {sp : World → (Str → Option Value) → Sp} {x : Str}
    (hn : l.most = some n) (hn2 : n ≤ sizeLine) (hdf : d.params.defaults = []) (hr : Room k callerA) (hY : ∀ (w : World) (h : Heap), YP w h → (K w.params).In h)
    (F : ∀ (w : World) (mg : Str → Option Value) (fa : Addr) (h : Heap), (K w.params).In h → h.Ns mainGlobals mg → mg d.name = some (.ref fa) →
      ∃ fd : FuncData, (∀ (s : Shared) (u : Value), BindsTo s fd ⟨[u], []⟩ [(x, u)]) ∧ ∀ base : Heap, (K w.params).In base → base.Ns mainGlobals mg → FnG l.prog w (K w.params) mg base k fa fd [x] (sp w mg))
    (hsp : ∀ (w : World) (mg : Str → Option Value) (H : Hp) (a : Addr) (ns : List Int), ns.length ≤ n → Only H → SqL (K w.params) H a (ns.map V.int) → sp w mg [.ref a] H (fun v _ => v = .bl true) fun _ _ _ => False) :
    PySem.W.WalkO q loose XP YP l.row.toRowW d [] (fun f vs => PySem.call f vs) :=
  Att.attach_call hn hdf fun w s₀ s₁ mg mb fa o pm cd doc a vs ns G Y ho hd hcd hmg hobj hints hlen hg => by
    obtain ⟨fd, hb, hF⟩ := F w mg fa _ (hY w _ Y) G.T.g hmg
    exact law_G (hY w _ Y) G.T.g G.T.b G.T.builtins G.T.nolimit hg hobj hints (Nat.le_trans hlen hn2) hr hF hb fun H hO hS => hsp w mg H a ns hlen hO hS
end AL
namespace AL
open PySem PySem.Spec PyProof.Rows L2
end AL
namespace AL
open PySem PySem.Spec PyProof.Rows L2
variable {B : Bs}
mutual
def D.pe : D → Option PyData
  | .non => some .none
  | .bl b => some (.bool b)
  | .int i => some (.int i)
  | .str x => some (.str x)
  | .lst ds => (peL ds).map .list
  | .tup ds => (peL ds).map .tuple
  | .dk es => (peK es).map .dict
  | _ => none
def peL : List D → Option (List PyData)
  | [] => some []
  | d :: ds => match D.pe d, peL ds with | some x, some xs => some (x :: xs) | _, _ => none
def peK : List (Key × D) → Option (List (PyData × PyData))
  | [] => some []
  | (k, d) :: es => match D.pe d, peK es with | some x, some xs => some ((match k with | .inl i => PyData.int i | .inr z => PyData.str z, x) :: xs) | _, _ => none
end
section
variable {X : Cx} {K : PySem.W.Frag} {pins : List (Addr × Obj)} {σ : L2.St} {H F : Hp} {s : Shared}
/-- shown, one way or another -/
def Shw (X : Cx) (h : Heap) (u : Value) (x : PyData) : Prop := (∃ as, Reads h u x as) ∧ ∃ bs, ReadAtMost h x.depth bs ∧ ReprK X.prog X.w bs h x.depth u x.shown
def ShwL (X : Cx) (h : Heap) (us : List Value) (xs : List PyData) : Prop := (∃ as, ReadsAll h us xs as) ∧ ∃ bs, ReadAtMost h (PyData.depthAll xs) bs ∧ ReprAllK X.prog X.w bs h (PyData.depthAll xs) us (PyData.shownAll xs)
theorem ShwL.nil {h : Heap} : ShwL X h [] [] := ⟨⟨_, .nil⟩, [], fun _ z => (by cases z), by simp only [PyData.shownAll]; exact .nil⟩
theorem ShwL.cons {h : Heap} {u : Value} {us : List Value} {x : PyData} {xs : List PyData} (a : Shw X h u x) (b : ShwL X h us xs) : ShwL X h (u :: us) (x :: xs) := by
  obtain ⟨⟨_, r1⟩, b1, m1, k1⟩ := a
  obtain ⟨⟨_, r2⟩, b2, m2, k2⟩ := b
  have ed : PyData.depthAll (x :: xs) = max x.depth (PyData.depthAll xs) := by simp only [PyData.depthAll]
  refine ⟨⟨_, .cons r1 r2⟩, b1 ++ b2, ?_, ?_⟩
  · rw [ed]
    exact (m1.mono (Nat.le_max_left _ _)).append (m2.mono (Nat.le_max_right _ _))
  · rw [ed]
    simp only [PyData.shownAll]
    exact .cons ((k1.more fun z hz => List.mem_append_left _ hz).level_le (Nat.le_max_left _ _)) (k2.more_le (fun z hz => List.mem_append_right _ hz) (Nat.le_max_right _ _))
end
def okKey : Key → Bool
  | .inl i => decide (i.natAbs.log2 < 1900)
  | .inr x => x.cps.all (· < 0x110000)
def blkKey : Key → Nat
  | .inl _ => 0
  | .inr x => x.length
mutual
/-- no cells within; texts of signs; numbers of few figures -/
def okR : D → Nat → Bool
  | .non, _ => true
  | .bl _, _ => true
  | .int i, _ => decide (i.natAbs.log2 < 1900)
  | .str x, _ => x.cps.all (· < 0x110000)
  | .lst ds, n + 1 => okRs ds n
  | .tup ds, n + 1 => okRs ds n
  | .dk es, n + 1 => okRk es n
  | _, _ => false
def okRs : List D → Nat → Bool
  | [], _ => true
  | d :: ds, n => okR d n && okRs ds n
def okRk : List (Key × D) → Nat → Bool
  | [], _ => true
  | (k, d) :: es, n => okKey k && okR d n && okRk es n
end
mutual
def blk : D → Nat
  | .str x => x.length
  | .lst ds => blks ds
  | .tup ds => blks ds
  | .dk es => blkk es
  | _ => 0
def blks : List D → Nat
  | [] => 0
  | d :: ds => blk d + 1 + blks ds
def blkk : List (Key × D) → Nat
  | [] => 0
  | (k, d) :: es => blkKey k + blk d + 2 + blkk es
end
theorem okRs_all {ds : List D} {n : Nat} : okRs ds n = true ↔ ∀ d ∈ ds, okR d n = true := by
  induction ds with
  | nil => simp [okRs]
  | cons d ds ih => simp [okRs, ih]
mutual
theorem okR_succ : ∀ (d : D) (n : Nat), okR d n = true → okR d (n + 1) = true
  | .non, _, _ => by simp [okR]
  | .bl _, _, _ => by simp [okR]
  | .int _, _, h => by simpa [okR] using h
  | .str _, _, h => by simpa [okR] using h
  | .lst ds, 0, h => by simp [okR] at h
  | .lst ds, n + 1, h => by
    simp only [okR] at h ⊢
    exact okRs_succ ds n h
  | .tup ds, 0, h => by simp [okR] at h
  | .tup ds, n + 1, h => by
    simp only [okR] at h ⊢
    exact okRs_succ ds n h
  | .dk es, 0, h => by simp [okR] at h
  | .dk es, n + 1, h => by
    simp only [okR] at h ⊢
    exact okRk_succ es n h
  | .scr _, _, h => by simp [okR] at h
  | .ce _, _, h => by simp [okR] at h
theorem okRs_succ : ∀ (ds : List D) (n : Nat), okRs ds n = true → okRs ds (n + 1) = true
  | [], _, _ => by simp [okRs]
  | d :: ds, n, h => by
    simp only [okRs, Bool.and_eq_true] at h ⊢
    exact ⟨okR_succ d n h.1, okRs_succ ds n h.2⟩
theorem okRk_succ : ∀ (ds : List (Key × D)) (n : Nat), okRk ds n = true → okRk ds (n + 1) = true
  | [], _, _ => by simp [okRk]
  | (k, d) :: ds, n, h => by
    simp only [okRk, Bool.and_eq_true] at h ⊢
    exact ⟨⟨h.1.1, okR_succ d n h.1.2⟩, okRk_succ ds n h.2⟩
end
theorem okR_mono {d : D} {n m : Nat} (h : okR d n = true) (hm : n ≤ m) : okR d m = true := by
  obtain ⟨k, rfl⟩ := Nat.le.dest hm
  clear hm
  induction k with
  | zero => exact h
  | succ k ih => exact okR_succ d _ ih
section
variable {X : Cx} {K : PySem.W.Frag}
def aDict0F : AE' := fun _ C P => P (.dk []) C
theorem ae_dict0F {pos : Pos} : AE B X (.Dict [] [] pos) tDNewK aDict0F := ⟨pe_dnewK, fun σ s F C R H Q P hs hS h k p hp => by
  have eN := Ex.new (o := .dK []) (hS.freeF hp)
  exact k _ _ _ C _ eN (hS.newF hp _) (.dk upd_same .nil) h⟩
end
end AL
namespace AL
open PySem PySem.Spec PyProof.Rows L2
end AL
namespace AL
open PySem PySem.Spec PyProof.Rows L2
end AL
namespace AL
open PySem PySem.Spec PyProof.Rows L2
variable {B : Bs}
inductive Src where
  | ls (a : Addr) | tp (a : Addr) | tx (z : Str)
def Src.holds (K : PySem.W.Frag) (H : Hp) : Src → List V → Prop
  | .ls a, xs => SqL K H a xs
  | .tp a, xs => SqT K H a xs
  | .tx z, xs => xs = signsV z
def Src.ref : Src → Option Addr
  | .ls a => some a
  | .tp a => some a
  | .tx _ => none
section
variable {X : Cx} {pins : List (Addr × Obj)} {σ : L2.St} {H : Hp} {s : Shared}
theorem Src.inj (I : Inv X pins σ H s) : ∀ {x : Src} {xs ys : List V}, x.holds X.K H xs → x.holds X.K H ys → xs = ys
  | .ls a, _, _, h, g => I.list_inj h g
  | .tp a, _, _, h, g => I.tuple_inj h g
  | .tx z, _, _, h, g => h.trans g.symm
end
end AL
namespace AL
open PySem PySem.Spec PyProof.Rows L2
variable {B : Bs}
section
variable {X : Cx} {pos : Pos} {K : PySem.W.Frag}
def aInT (neg : Bool) : D → D → AH → (D → AH → Prop) → Prop := fun x y C P => match x, y with
  | .str i, .str j => P (.bl (if neg then !(!(Builtin.Str.occurrences j i 0 j.length 1).isEmpty) else !(Builtin.Str.occurrences j i 0 j.length 1).isEmpty)) C
  | _, _ => False
abbrev aNinS := aInT true
theorem ao_ninS : AOp B X (compareOp .NotIn) (fun x y H Q => ∃ i j, x = .str i ∧ y = .str j ∧ Q (.bl (!(!(Builtin.Str.occurrences j i 0 j.length 1).isEmpty))) H) aNinS := ⟨op_notin_str, by
  intro v w d e F C R H Q P hS r1 r2 h k
  unfold aNinS aInT at h
  split at h
  · cases r1; cases r2
    exact ⟨_, _, rfl, rfl, k _ _ F C H (Ex.refl F) hS (.bl _) h⟩
  · exact h.elim⟩
end
section
variable {s : ASt} {C : AH} {P : D → AH → Prop} {aa : AA'} {PI : List D → (AH → Prop) → AH → Prop}
theorem g_ninS {i j : Str} (h : P (.bl (!(!(Builtin.Str.occurrences j i 0 j.length 1).isEmpty))) C) : aNinS (.str i) (.str j) C P := h
end
end AL
namespace AL
open PySem PySem.Spec PyProof.Rows L2
end AL
namespace AL
open PySem PySem.Spec PyProof.Rows L2
end AL
namespace AL
open PySem PySem.Spec PyProof.Rows L2
end AL
namespace AL
open PySem PySem.Spec PyProof.Rows L2
variable {B : Bs}
def ddS (σ : List Str) (v : Str) : List Str := if σ.any (· == v) then σ else σ ++ [v]
def dd (xs : List Str) : List Str := xs.foldl ddS []
theorem dd_snoc (xs : List Str) (v : Str) : dd (xs ++ [v]) = ddS (dd xs) v := by unfold dd; rw [List.foldl_append]; rfl
theorem ddS_any (σ : List Str) (v k : Str) : (ddS σ v).any (· == k) = (σ.any (· == k) || decide (k = v)) := by
  unfold ddS
  by_cases h : σ.any (· == v) = true
  · rw [if_pos h]
    by_cases e : k = v
    · rw [e, h]; simp
    · simp [e]
  · rw [if_neg h, List.any_append]
    by_cases e : k = v
    · rw [e]; simp
    · have hb : (v == k) = false := by simpa [beq_iff_eq] using (fun q : v = k => e q.symm)
      simp [hb, e]
theorem ddS_len (σ : List Str) (v : Str) : (ddS σ v).length = if σ.any (· == v) then σ.length else σ.length + 1 := by unfold ddS; split <;> simp
theorem foldl_le : ∀ (xs σ : List Str), (xs.foldl ddS σ).length ≤ σ.length + xs.length
  | [], σ => Nat.le_refl _
  | x :: xs, σ => by
    rw [List.foldl_cons, List.length_cons]
    have := foldl_le xs (ddS σ x)
    rw [ddS_len] at this
    split at this <;> omega
theorem dd_le (xs : List Str) : (dd xs).length ≤ xs.length := by
  have := foldl_le xs []
  rw [List.length_nil, Nat.zero_add] at this
  exact this
/-- the signs of a text, as texts -/
def sgS (z : Str) : List Str := z.cps.toList.map fun c => ⟨#[c]⟩
theorem sgS_len (z : Str) : (sgS z).length = z.length := by unfold sgS; rw [List.length_map, Array.length_toList]; rfl
section
variable {prog : Program} {w : World} {A : Around} {R : Result → Shared → Prop} {I : Addr} {fp wr : List Addr} {G : Array GenState → Array GenState → Prop} {n : Nat} {P : Nat → Value → Prop} {St : Nat → Shared → Prop}
abbrev SetS (prog : Program) (w : World) (h : Heap) (S : Addr) (xs : List Str) : Prop := h.SetOf (PySem.strKind prog w) S (fun k => (dd xs).any (· == k)) (dd xs).length
theorem SetS.keep {h h' : Heap} {S : Addr} {xs : List Str} (q : SetS prog w h S xs) (hk : ∀ o, h.get? S = some o → h'.get? S = some o) : SetS prog w h' S xs := by
  obtain ⟨o, es, ep, t, ho, r⟩ := q
  exact ⟨o, es, ep, t, hk _ ho, r⟩
theorem setLoop (W : WalksS prog w A.in1 I fp wr G n P St) (S : Addr) (hSf : S ∉ fp) (xs : List Str) (hxs : xs.length = n) (hval : ∀ i v, P i v → ∃ t z, xs[i]? = some z ∧ v = .str z t) (hb : n + 1 < scanBound) : ∀ (k i : Nat), n - i = k → i ≤ n → ∀ (s : Shared), St i s → SetS prog w s.heap S (xs.take i) →
    (∀ z, Moved (S :: wr) G s z → SetS prog w z.heap S xs → R (.ok (.ret .none)) z) → codeAny (model prog w) A (.builtin "set.update.loop" ⟨[.ref S, .ref I], []⟩) R s := by
  have hSw : S ∉ wr := fun y => hSf (W.sub _ y)
  have hin : ∀ b ∈ wr, b ∈ S :: wr := fun b y => List.mem_cons_of_mem _ y
  intro k
  induction k with
  | zero =>
    intro i hk hi s hst hS hR
    obtain rfl : i = n := by omega
    refine codeAny_builtin (b := Builtin.«set.update.loop») PyProof.Rows.F.entry_set_update_loop ?_; rw [Around.under_plainId PyProof.Rows.F.plain_set_update_loop]
    refine wpAny_bind (m := pyNext (.ref I)) (W.done s _ _ hst fun z hm => wpAny_pure (hR z (hm.mono hin) ?_))
    rw [← hxs, List.take_length] at hS
    exact hS.keep fun o e => hm.heap S _ hSw e
  | succ k ih =>
    intro i hk hi s hst hS hR
    have hlt : i < n := by omega
    refine codeAny_builtin (b := Builtin.«set.update.loop») PyProof.Rows.F.entry_set_update_loop ?_; rw [Around.under_plainId PyProof.Rows.F.plain_set_update_loop]
    refine wpAny_bind (m := pyNext (.ref I)) (W.item i s _ _ hlt hst fun v y hP hst' hm => ?_)
    obtain ⟨t, z, hz, rfl⟩ := hval i v hP
    have hS' : SetS prog w y.heap S (xs.take i) := hS.keep fun o e => hm.heap S _ hSw e
    show wpAny _ A.in1 (holding [Value.str z t] (setAdd S (.str z t)) >>= _) _ _ y
    refine wpAny_bind (wpAny_holding ?_); unfold setAdd
    refine wpAny_holding (wpAny_bind ((PySem.strKind prog w).pyHash (k := z) (strKind_is _ _ _ _) ?_))
    have hroom : (dd (xs.take i)).length + 1 < scanBound := by have := dd_le (xs.take i); rw [List.length_take] at this; omega
    refine wpAny_setAddHashed_of (knd := PySem.strKind prog w) (s := { y with toks := y.toks + 1 }) (strKind_is _ _ _ _) rfl hS' hroom fun h' hsb hS2 => ?_
    have e1 : xs.take (i + 1) = xs.take i ++ [z] := by rw [List.take_add_one, hz]; rfl
    have hSi : SetS prog w h' S (xs.take (i + 1)) := SetOf_congr hS2 (fun k' => by rw [e1, dd_snoc, ddS_any]) (by rw [e1, dd_snoc, ddS_len])
    refine wpAny_pure ⟨plainId_quiet PyProof.Rows.F.plain_set_update_loop _, ih (i + 1) (by omega) hlt _ (W.frame _ y _ _ hst' (Nat.le_succ _) fun b hb o e => ?_) hSi fun z2 hm2 hS3 => ?_⟩
    · rw [hsb.2 b (fun q : b = S => hSf (by rw [← q]; exact hb))]; exact e
    · refine hR z2 (Moved.trans W.gtrans ((hm.mono hin).then_heap (Nat.le_succ _) fun b o hb e => ?_) hm2) hS3
      rw [hsb.2 b (fun q : b = S => hb (by rw [q]; exact List.mem_cons_self))]; exact e
end
section
variable {prog : Program} {w : World} {A : Around} {E : Value → Shared → Prop} {s : Shared}
set_option maxHeartbeats 3200000 in
theorem callSetStr {x : Str} {t : Tok} {Q : Value → Shared → Prop} (hh : A.handled = none) (hb : x.length + 1 < scanBound)
    (h : ∀ (h' : Heap) (tk : Nat), SetS prog w h' s.heap.objs.size (sgS x) → (∀ b o, b < s.heap.objs.size → s.heap.get? b = some o → h'.get? b = some o) → Q (.ref s.heap.objs.size) { s with heap := h', toks := tk }) :
    wpAny (model prog w) A (call (.type "set") [.str x t]) Q E s := by
  obtain ⟨c, tl, hmro⟩ := PySem.F.called_set.mro
  have hmade := PySem.F.called_set.made; have hsub := PySem.F.called_set.sub
  refine wpAny_call (codeAny_of_tree (show wpAny _ _ (callAny (.type "set") _) _ _ _ from ?_))
  refine wpAny_pure ⟨Code.quiet_builtin _ (by decide +kernel), codeAny_builtin PySem.F.entry_type_call ?_⟩; rw [Around.under_plain (weight_type_call_type "set" [.str x t] []) rfl]
  have h1 := PySem.F.called_set.notType; have h2 := PySem.F.called_set.canCreate; have hct := PySem.F.typeCall_set_1 (.str x t)
  repeat (any_goals first | assumption | wp_step)
  let fo : Bool → Obj := fun led => { cls := .type "set", dict := none, data := .set #[] 0 (.fresh 0 0 led) }
  refine codeAny_mono (code_set_new_1 (.str x t) (E := E) (Q₁ := fun obj z => ∃ led : Bool, obj = .ref s.heap.objs.size ∧ z = { s with heap := s.heap.push (fo led) }) fun led => ⟨led, rfl, rfl⟩) fun r s₁ hr => ?_
  cases r with
  | error e => exact hr
  | ok fl =>
    cases fl with
    | ret obj =>
      obtain ⟨led, rfl, rfl⟩ := hr
      have hS : (s.heap.push (fo led)).get? s.heap.objs.size = some (fo led) := Heap.get?_push_size _ rfl
      have hT : Shared.TypeIs { s with heap := s.heap.push (fo led) } (.ref s.heap.objs.size) "set" := ⟨_, hS, rfl⟩
      have hli := PySem.F.called_set.init.lookup; have hbi := PySem.F.called_set.init.bind (.ref s.heap.objs.size)
      repeat (any_goals first | assumption | wp_step)
      refine codeAny_mono (codeAny_call_builtin (R := wants (fun r z => r = .none ∧ ∃ h' tk, z = { s with heap := h', toks := tk } ∧ SetS prog w h' s.heap.objs.size (sgS x) ∧ (∀ b o, b < s.heap.objs.size → s.heap.get? b = some o → h'.get? b = some o)) E) PySem.F.called_set.init.plain PySem.F.entry_set_init (check_set_init_1 hT ?_)) fun r₂ s₂ hr₂ => ?_
      · have hsls := PySem.F.sub_str_set; have hslf := PySem.F.sub_str_frozenset
        have hne : (Value.type "str" == Value.type "dict") = false := by decide
        unfold Builtin.«set.__init__» noKeywords Builtin.Frozenset.updateFrom
        generalize hPI : pyIter = PI
        wp_walk
        subst hPI
        refine PySem.wpAny_pyIter_str fun o St hW hst => ?_
        refine wpAny_bind (wpAny_runValue ?_)
        have hh3 : A.in1.in1.in1.handled = none := by simp [hh]
        have hne2 : s.heap.objs.size ∉ [(s.heap.push (fo led)).objs.size] := by
          rw [Heap.size_push, List.mem_singleton]; exact Nat.ne_of_lt (Nat.lt_succ_self _)
        refine setLoop (hW _ hh3).toS s.heap.objs.size hne2 (sgS x) (by rw [sgS_len]; rfl) (fun i v hv => ?_) hb (x.cps.size - 0) 0 (by omega) (Nat.zero_le _) _ hst ?_ fun z hm hS3 => ?_
        · obtain ⟨c, u, e1, e2⟩ := hv
          exact ⟨u, _, by unfold sgS; rw [List.getElem?_map, Array.getElem?_toList, e1]; rfl, e2⟩
        · have hget : ((s.heap.push (fo led)).push o).get? s.heap.objs.size = some (fo led) := Heap.get?_push_of_some _ hS
          exact PyProof.Rows.SetOf_congr ((PyProof.Rows.setObjOf_fresh (knd := PySem.strKind prog w) led).setOf hget (by unfold scanBound; omega)) (fun _ => rfl) rfl
        · obtain ⟨h', g', d', tk', os'⟩ := z
          cases (show g' = s.gens from hm.gens); cases (show d' = s.drawn from hm.drawn); cases (show os' = s.os from hm.os)
          refine wpAny_pure (wpAny_pure ⟨rfl, h', tk', rfl, hS3, fun b o2 hb e => ?_⟩)
          have hb1 : b ≠ s.heap.objs.size := Nat.ne_of_lt hb
          have hb2 : b ≠ (s.heap.push (fo led)).objs.size := by rw [Heap.size_push]; exact Nat.ne_of_lt (Nat.lt_succ_of_lt hb)
          exact hm.heap b o2 (by simp only [List.mem_cons, List.mem_singleton, List.not_mem_nil, or_false, not_or]; exact ⟨hb1, hb2⟩) (Heap.get?_push_of_some _ (Heap.get?_push_of_some _ e))
      · cases r₂ with
        | error e => exact hr₂
        | ok fl₂ =>
          cases fl₂ with
          | ret r =>
            obtain ⟨rfl, h', tk, rfl, hS', hk'⟩ := hr₂
            repeat (any_goals first | assumption | wp_step)
            exact h _ _ hS' hk'
          | _ => exact hr₂.elim
    | _ => exact hr.elim
end
end AL
namespace AL
open PySem PySem.Spec PyProof.Rows L2
variable {B : Bs}
def tLenSetT (ta : TE) : TE := fun σ H Q => ta σ H fun x H1 => ∃ z, x = .str z ∧ z.length ≤ 4000 ∧ Q (.int (dd (sgS z)).length) H1
section
variable {X : Cx} {K : PySem.W.Frag}
theorem pe_lenSetT {a : Expr} {ta : TE} {p p2 q pos : Pos} (hm : X.mg "len" = none) (hm2 : X.mg "set" = none) (ha : PE X a ta) (hc : X.calm = true := by rfl) (hg : Gl X "len" := by rfl) (hg2 : Gl X "set" := by rfl)
    (na : starEach [a] X.env = (false, eval a X.env) :: starEach [] X.env := by rfl) : PE X (.Call (.Name "len" p) [.Call (.Name "set" p2) [a] [] q] [] pos) (tLenSetT ta) := by
  refine ⟨fun pins s σ H Q I h => PyProof.Rows.Call_ (ld_blt I hg hm boot_len (PyProof.Rows.callWith_builtin1 (PyProof.Rows.args_cons (PyProof.Rows.Call_ (ld_blt I hg2 hm2 boot_set ?_)) rfl) rfl rfl))⟩
  refine PyProof.Rows.callWith_type1 (PyProof.Rows.args_cons (thn (ha.run pins s σ H _ I h) fun v s1 ⟨x, H1, I1, r1, q1⟩ => PyProof.Rows.args_nil ?_) na) na rfl
  obtain ⟨z, rfl, hz, q1⟩ := q1
  obtain ⟨t, rfl⟩ := r1
  refine callSetStr (I1.ok.hd hc) (by unfold scanBound; omega) fun h' tk hS hk => PyProof.Rows.args_nil ?_
  have hle := dd_le (sgS z)
  rw [sgS_len] at hle
  obtain ⟨o, es, ep, tb, ho, hex, hd, _, _, _, hf, hn⟩ := hS
  have I2 : Inv X pins σ H1 { s1 with heap := h', toks := tk } := I1.kept fun b o e => hk b o (Heap.lt_size e) e
  exact call_len_set ho hex hd hf (by rw [hn] <;> omega) ⟨.int (dd (sgS z)).length, H1, I2.tok _, ⟨_, by rw [hn]⟩, q1⟩
def aLenSet (a : AE') : AE' := fun s C P => a s C fun x C1 => match x with | .str z => z.length ≤ 4000 ∧ P (.int (dd (sgS z)).length) C1 | _ => False
theorem ae_lenSetT {a : Expr} {ta : TE} {aa : AE'} {p p2 q pos : Pos} (hm : X.mg "len" = none) (hm2 : X.mg "set" = none) (ha : AE B X a ta aa) (hc : X.calm = true := by rfl) (hg : Gl X "len" := by rfl) (hg2 : Gl X "set" := by rfl)
    (na : starEach [a] X.env = (false, eval a X.env) :: starEach [] X.env := by rfl) : AE B X (.Call (.Name "len" p) [.Call (.Name "set" p2) [a] [] q] [] pos) (tLenSetT ta) (aLenSet aa) := ⟨pe_lenSetT hm hm2 ha.pe hc hg hg2 na, by
  intro σ s F C R H Q P hs hS h0 k
  refine ha.sim σ s F C R H _ _ hs hS h0 fun x v F1 C1 H1 e1 S1 r1 h1 => ?_
  split at h1
  · cases r1
    exact ⟨_, rfl, h1.1, k _ _ F1 C1 H1 e1 S1 (.int _) h1.2⟩
  · exact h1.elim⟩
/-- ord of one sign -/
def aOrd : ASp := fun ds C P => match ds with | [.str z] => z.length = 1 ∧ P (.int (z.cps.getD 0 0 : Nat)) C | _ => False
theorem ac_ord : ACa B X (.builtin "ord") (fun xs H Q => ∃ x, xs = [.str x] ∧ x.length = 1 ∧ Q (.int (x.cps.getD 0 0 : Nat)) H) aOrd := ⟨call_ord, by
  intro vs ds F C R H Q P hS r h k
  unfold aOrd at h
  split at h
  · cases r with
    | cons r1 r2 =>
      cases r2; cases r1
      exact ⟨_, rfl, h.1, k _ _ F C H (Ex.refl F) hS (.int _) h.2⟩
  · exact h.elim⟩
end
section
variable {C : AH} {P : D → AH → Prop} {s : ASt} {e : AE'}
def kLenSet (P : D → AH → Prop) : D → AH → Prop := fun x C1 => match x with | .str z => z.length ≤ 4000 ∧ P (.int (dd (sgS z)).length) C1 | _ => False
theorem g_lenSet (h : e s C (kLenSet P)) : aLenSet e s C P := h
theorem g_kLenSet {z : Str} (h1 : z.length ≤ 4000) (h : P (.int (dd (sgS z)).length) C) : kLenSet P (.str z) C := ⟨h1, h⟩
theorem g_ord {z : Str} (h1 : z.length = 1) (h : P (.int (z.cps.getD 0 0 : Nat)) C) : aOrd [.str z] C P := ⟨h1, h⟩
end
end AL
namespace AL
open PySem PySem.Spec PyProof.Rows L2
variable {B : Bs}
def TabI (P : Params) : List DictEntry → List (Str × Int) → Prop
  | [], [] => True
  | e :: r, (x, i) :: q => (∃ t u, e.key = .str x t ∧ e.val = .int i u ∧ e.hash = PyData.keyHash P x) ∧ TabI P r q
  | _, _ => False
def tabAt : List (Str × Int) → Str → Option Int
  | [], _ => none
  | (x, i) :: q, z => if x = z then some i else tabAt q z
theorem TabI.find {P : Params} : ∀ {es : List DictEntry} {tab : List (Str × Int)} (z : Str), TabI P es tab → match tabAt tab z with | some i => ∃ e u, es.find? (·.key.isStr z) = some e ∧ e.val = .int i u | none => es.find? (·.key.isStr z) = none
  | [], [], _, _ => rfl
  | [], _ :: _, _, h => h.elim
  | e :: r, (x, i) :: q, z, ⟨⟨t, u, h1, h2, h3⟩, h⟩ => by
    unfold tabAt
    by_cases hx : x = z
    · rw [if_pos hx]
      refine ⟨e, u, ?_, h2⟩
      rw [List.find?_cons_of_pos]
      rw [h1, hx]
      simp [Value.isStr]
    · rw [if_neg hx, List.find?_cons_of_neg]
      · exact TabI.find z h
      · rw [h1]
        simp [Value.isStr, hx]
  | e :: r, [], _, h => h.elim
section
variable {X : Cx} {K : PySem.W.Frag} {x : Str} {d : Addr} {tab : List (Str × Int)} {e : Expr} {te : TE} {a : AE'} {p pos : Pos}
def aInTab (tab : List (Str × Int)) (neg : Bool) (a : AE') : AE' := fun s C P => a s C fun x C1 => match x with | .str z => P (.bl (if neg then !(tabAt tab z).isSome else (tabAt tab z).isSome)) C1 | _ => False
def aIxTab (tab : List (Str × Int)) (a : AE') : AE' := fun s C P => a s C fun x C1 => match x with | .str z => (match tabAt tab z with | some i => P (.int i) C1 | none => False) | _ => False
end
section
variable {C : AH} {P : D → AH → Prop} {s : ASt} {e : AE'} {tab : List (Str × Int)}
def kInTab (tab : List (Str × Int)) (neg : Bool) (P : D → AH → Prop) : D → AH → Prop := fun x C1 => match x with | .str z => P (.bl (if neg then !(tabAt tab z).isSome else (tabAt tab z).isSome)) C1 | _ => False
def kIxTab (tab : List (Str × Int)) (P : D → AH → Prop) : D → AH → Prop := fun x C1 => match x with | .str z => (match tabAt tab z with | some i => P (.int i) C1 | none => False) | _ => False
theorem g_inTab {neg : Bool} (h : e s C (kInTab tab neg P)) : aInTab tab neg e s C P := h
theorem g_kInTab {z : Str} (h : P (.bl (tabAt tab z).isSome) C) : kInTab tab false P (.str z) C := h
theorem g_kNotInTab {z : Str} (h : P (.bl (!(tabAt tab z).isSome)) C) : kInTab tab true P (.str z) C := h
theorem g_ixTab (h : e s C (kIxTab tab P)) : aIxTab tab e s C P := h
end
end AL
namespace AL
open PySem PySem.Spec PyProof.Rows L2
variable {B : Bs}
section
variable {X : Cx} {K : PySem.W.Frag}
/-- the right side is [] -/
def aEqNil (neg : Bool) : D → D → AH → (D → AH → Prop) → Prop := fun x y C P => match asLr C x, y with
  | some us, .lst [] => P (.bl (if neg then !us.isEmpty else us.isEmpty)) C
  | _, _ => False
end
section
variable {C : AH} {P : D → AH → Prop}
theorem g_eqNil {us : List D} (h : P (.bl us.isEmpty) C) : aEqNil false (.lst us) (.lst []) C P := h
theorem g_neNil {us : List D} (h : P (.bl (!us.isEmpty)) C) : aEqNil true (.lst us) (.lst []) C P := h
end
section
variable {C : AH} {P : D → AH → Prop} {s : ASt} {a b c : AE'} {r r' : D → D → AH → (D → AH → Prop) → Prop}
def kChain (r' : D → D → AH → (D → AH → Prop) → Prop) (c : AE') (y : D) (s : ASt) (P : D → AH → Prop) : D → AH → Prop := fun z C3 => match z with
  | .bl true => c s C3 fun w C4 => r' y w C4 P
  | .bl false => P (.bl false) C3
  | _ => False
theorem g_chain (h : a s C fun x C1 => b s C1 fun y C2 => r x y C2 (kChain r' c y s P)) : aChain r r' a b c s C P := h
theorem g_kChain {y : D} {k : Bool} (h1 : k = true → c s C fun w C4 => r' y w C4 P) (h2 : k = false → P (.bl false) C) : kChain r' c y s P (.bl k) C := by
  cases k
  · exact h2 rfl
  · exact h1 rfl
end
end AL
namespace AL
open PySem PySem.Spec PyProof.Rows L2
end AL
namespace AL
open PySem PySem.Spec PyProof.Rows L2
end AL
namespace AL
open PySem PySem.Spec PyProof.Rows L2
variable {B : Bs}
section
variable {X : Cx} {K : PySem.W.Frag}
def aMaxL : ASp := fun ds C P => match ds with
  | [d] => ∃ (es : List D) (ks : List Int), asLr C d = some es ∧ es = ks.map D.int ∧ 0 < ks.length ∧ ∀ m : Int, m ∈ ks → (∀ y, y ∈ ks → y ≤ m) → P (.int m) C
  | _ => False
theorem ac_maxL (hc : X.calm = true := by rfl) (hK : X.K = K := by rfl) : ACa B X (.builtin "max") (rMax K) aMaxL := by
  subst hK
  exact ⟨cr_max hc, by
  intro vs ds F C R H Q P hS r h k
  unfold aMaxL at h
  split at h
  · cases r with
    | cons r1 r2 =>
      cases r2
      obtain ⟨es, ks, h1, h2, h3, h4⟩ := h
      subst h2
      obtain ⟨a, kvs, rfl, g1, g2⟩ := asLr_ok hS r1 h1
      rw [g2.ofInts] at g1
      exact ⟨a, ks, rfl, g1, h3, fun m e1 e2 => k _ _ F C H (Ex.refl F) hS (.int _) (h4 m e1 e2)⟩
  · exact h.elim⟩
end
end AL
namespace AL
open PySem PySem.Spec PyProof.Rows L2
end AL
namespace AL
open PySem L2
def nk (n : Nat) : Key := .inl (n : Int)
theorem nk_inj {a b : Nat} (h : nk a = nk b) : a = b := by have := Sum.inl.inj h; omega
def Ky (es : List (Key × D)) (L : List Nat) : Prop := es.map (·.1) = L.map nk
def addN (L : List Nat) (n : Nat) : List Nat := if n ∈ L then L else L ++ [n]
theorem Ky.nil : Ky [] [] := rfl
theorem Ky.len {es : List (Key × D)} {L : List Nat} (h : Ky es L) : es.length = L.length := by
  have := congrArg List.length h
  simpa using this
theorem Ky.any {es : List (Key × D)} {L : List Nat} (h : Ky es L) (n : Nat) : (es.any fun kv => decide (kv.1 = nk n)) = decide (n ∈ L) := by
  have e : (es.any fun kv => decide (kv.1 = nk n)) = (es.map (·.1)).any fun k => decide (k = nk n) := by rw [List.any_map]; rfl
  rw [e, show es.map (·.1) = L.map nk from h, List.any_map, Bool.eq_iff_iff, List.any_eq_true, decide_eq_true_iff]
  constructor
  · rintro ⟨m, hm, e⟩
    have := nk_inj (of_decide_eq_true e)
    rw [← this]; exact hm
  · intro hm
    exact ⟨n, hm, decide_eq_true rfl⟩
theorem Ky.val {es : List (Key × D)} {L : List Nat} (h : Ky es L) (n : Nat) : (valD es (nk n)).isSome = decide (n ∈ L) := by
  rw [← h.any n]
  unfold valD
  rw [Option.isSome_map, Bool.eq_iff_iff, List.find?_isSome, List.any_eq_true]
theorem Ky.put {es : List (Key × D)} {L : List Nat} {d : D} (h : Ky es L) (n : Nat) : Ky (putD es (nk n) d) (addN L n) := by
  unfold putD addN
  rw [h.any]
  by_cases hn : n ∈ L
  · rw [decide_eq_true hn, if_pos rfl, if_pos hn]
    show (es.map _).map _ = _
    rw [List.map_map]
    have e : ((fun kv : Key × D => kv.1) ∘ fun kv : Key × D => if kv.1 = nk n then (kv.1, d) else kv) = fun kv => kv.1 := by
      funext kv
      simp only [Function.comp]
      split <;> rfl
    rw [e]
    exact h
  · rw [decide_eq_false hn, if_neg (by decide), if_neg hn]
    show (es ++ [_]).map _ = _
    rw [List.map_append, List.map_append, show es.map (·.1) = L.map nk from h]
    rfl
theorem nodup_addN {L : List Nat} {n : Nat} (h : L.Nodup) : (addN L n).Nodup := by
  unfold addN
  split
  · exact h
  · rename_i hn
    refine List.nodup_append.mpr ⟨h, by simp, ?_⟩
    intro a ha b hb e
    have : b = n := by simpa using hb
    exact hn (by rw [← this, ← e]; exact ha)
end AL
namespace AL
open PySem PySem.Spec PyProof.Rows L2
open AutoSeq1 (wpAny_loadPart')
end AL
namespace AL
open PySem PySem.Spec PyProof.Rows L2
end AL
namespace AL
open PySem PySem.Spec PyProof.Rows L2
variable {B : Bs}
def aFrzO (i : Nat) (a : AS') : AS' := fun E s C => match s[i]? with
  | some (some (.ce p)) => aFrz i a E s C
  | _ => a E s C
theorem sim_frzO {K : PySem.W.Frag} {t : TS} {a : AS'} (i : Nat) (h : SimS B K t a) : SimS B K t (aFrzO i a) := fun D' E σ s F C R H hE hs hS h0 => by
  unfold aFrzO at h0
  split at h0
  · exact sim_frz i h D' E σ s F C R H hE hs hS h0
  · exact h D' E σ s F C R H hE hs hS h0
theorem ass_frzO {X : Cx} {sts : List Stmt} {t : TS} {a : AS'} (i : Nat) (h : ASs B X sts t a) : ASs B X sts t (aFrzO i a) := ⟨h.ps, sim_frzO i h.sim⟩
section
variable {a : AS'} {s : ASt} {C : AH} {E : AEnds}
theorem g_frzOL {i : Nat} {p : Addr} {ds : List D} (h0 : s[i]? = some (some (.ce p))) (h1 : C p = some (.lst ds)) (h : a E (s.set i (some (.lst ds))) (del C p)) : aFrzO i a E s C := by
  unfold aFrzO
  rw [h0]
  exact g_frzL h0 h1 h
theorem g_frzON {i : Nat} {d : D} (h0 : s[i]? = some (some d)) (hd : ∀ p, d ≠ .ce p) (h : a E s C) : aFrzO i a E s C := by
  unfold aFrzO
  rw [h0]
  split
  · rename_i e
    injection e with e
    injection e with e
    exact absurd e (hd _)
  · exact h
end
end AL
namespace AL
open PySem PySem.Spec PyProof.Rows L2
end AL
namespace AL
open PySem PySem.Spec PyProof.Rows L2
open AutoSeq1 (wpAny_loadPart')
end AL
namespace AL
open PySem PySem.Spec PyProof.Rows L2
variable {B : Bs}
def aLindex : D → ASp := fun x ds C P => match ds with
  | [.int i] => ∃ (es : List D) (ks : List Int), asLr C x = some es ∧ es = ks.map D.int ∧ i ∈ ks ∧ ∀ j : Nat, ks[j]? = some i → P (.int j) C
  | _ => False
theorem first_at {i : Int} : ∀ {ks : List Int}, i ∈ ks → ∃ j : Nat, ks[j]? = some i ∧ ∀ m, m < j → ∀ k, ks[m]? = some k → k ≠ i
  | k :: ks, h => by
    by_cases e : k = i
    · exact ⟨0, by rw [e]; rfl, fun m hm => absurd hm (Nat.not_lt_zero _)⟩
    · rcases List.mem_cons.mp h with h | h
      · exact absurd h.symm e
      · obtain ⟨j, h1, h2⟩ := first_at h
        refine ⟨j + 1, by simpa using h1, fun m hm k' hk => ?_⟩
        cases m with
        | zero => simp at hk; rw [← hk]; exact e
        | succ m => exact h2 m (by omega) k' (by simpa using hk)
theorem am_lindex {X : Cx} {K : PySem.W.Frag} (hK : X.K = K := by rfl) : AMt B X "list.index" (rIndex K) aLindex := by
  subst hK
  exact ⟨mt_index, by
  intro v d vs ds F C R H Q P hS r1 r2 h k
  unfold aLindex at h
  split at h
  · cases r2 with
    | cons r2 r3 =>
      cases r3
      cases r2
      rename_i i
      obtain ⟨es, ks, h1, h2, h3, h4⟩ := h
      subst h2
      obtain ⟨a, xs, rfl, g1, g2⟩ := asLr_ok hS r1 h1
      rw [g2.ofInts] at g1
      obtain ⟨j, j1, j2⟩ := first_at h3
      refine ⟨a, _, .int i, j, .int i, rfl, rfl, g1, rfl, List.all_eq_true.mpr fun x hx => by obtain ⟨n, _, rfl⟩ := List.mem_map.mp hx; rfl, by rw [List.getElem?_map, j1]; rfl, by show ((i : Int) == i) = true; simp, fun m z' hm hz => ?_, k _ _ F C H (Ex.refl F) hS (.int _) (h4 j j1)⟩
      rw [List.getElem?_map] at hz
      cases e : ks[m]? with
      | none => rw [e] at hz; cases hz
      | some n =>
        rw [e] at hz
        cases hz
        have := j2 m hm n e
        show ((n : Int) == i) = false
        simpa using this
  · exact h.elim⟩
end AL
namespace AL
open PySem PySem.Spec PyProof.Rows L2
open PyProof.Rows (envOfC)
variable {B : Bs}
/-- what is asked where a class's exception flies out, the slots and the cells as they are then -/
abbrev AX' := ASt → Str → AH → Prop
abbrev ASpX := List D → AH → (D → AH → Prop) → (Str → AH → Prop) → Prop
theorem Sat.at0 {K : PySem.W.Frag} {F : Hp} {C : AH} {R H : Hp} (S : Sat B K F C R H) : Sat B K F C B.R0 H := ⟨S.bF, Ex.refl _, S.ex, S.cell, fun p o e => S.priv p o (S.bR p o e)⟩
/-- only an exception of a class with its own __init__ has a dict -/
def dOf (nm : Str) (d : Option Addr) : Prop := nm = "NoSentence" ∨ d = none
def WR (B : Bs) (K : PySem.W.Frag) (mg : Str → Option Value) (W : AX') (Wk : WX) : Prop :=
  ∀ nm cls d s σ F C H, mg nm = some cls → dOf nm d → Slo K F s σ → Sat B K F C B.R0 H → W s nm C → Wk cls d σ H
/-- facts of an own exception class without own __init__ over ValueError -/
def ExcF (K : PySem.W.Frag) (mg : Str → Option Value) (x : Str) : Prop :=
  ∃ C, mg x = some (.ref C) ∧ PySem.W.excIn K C [.type "ValueError", .type "Exception", .type "BaseException", .type "object"] "ValueError.__new__" = true ∧ PySem.W.keepIn K (.ref C) = true ∧ PySem.W.subIn K (.ref C) (.type "BaseException") = some true ∧ PySem.W.typeIn K (.ref C) = some (.type "type")
def aRaise (W : AX') (nm : Str) : AS' := fun _ s C => W s nm C
def tRaise (mg : Str → Option Value) (nm : Str) (Wk : WX) : TS := fun _ σ H => ∃ C, mg nm = some (.ref C) ∧ Wk (.ref C) none σ H
section
variable {X : Cx} {K : PySem.W.Frag} {W : AX'} {Wk : WX} {x m : Str} {j : Nat} {p p2 p3 pos : Pos}
theorem as_raise {mg : Str → Option Value} (f : ExcF K mg x) (tk : Takes X Wk) (rel : WR B K mg W Wk) (hc : X.calm = true := by rfl) (hg : Gl X x := by rfl) (hdb : (x == ("__debug__" : Str)) = false := by decide) (hK : X.K = K := by rfl) (hmg : X.mg = mg := by rfl) :
    AS B X (.Raise (some (.Call (.Name x p) [.Constant (.str m) j p2] [] p3)) none pos) (tRaise mg x Wk) (aRaise W x) := by
  subst hK hmg
  obtain ⟨C, gC, xC, kC, bC, tC⟩ := f
  have h := ps_raise (pos := pos) hc tk (pmk_own (m := m) (j := j) (p := p) (p2 := p2) (pos := p3) PySem.F.excBase_ValueError xC gC kC (raises_own bC tC) hg hdb)
  refine ⟨⟨fun pins s σ H D I hh => h.run pins s σ H D I ?_⟩, fun D' E σ s F C' R H hE hs hS h0 => ?_⟩
  · obtain ⟨C2, g2, w⟩ := hh
    rw [gC] at g2
    cases g2
    exact w
  · exact ⟨C, gC, rel x _ none s σ F C' H gC (.inr rfl) hs hS.at0 h0⟩
def spOfX (g : Gd) (K : PySem.W.Frag) (n : Nat) (asp : ASpX) : Sp := fun vs H Q E => vs.length = n ∧ ∃ F C R ds P PX, Sat (Bs.nil g) K F C R H ∧ RepL K F vs ds ∧ asp ds C P PX ∧ (∀ d v F' C' H', Ex F F' → Sat (Bs.nil g) K F' C' R H' → Rep K F' v d → P d C' → Q v H') ∧
  ∀ nm cls d F' C' H', g.mg nm = some cls → dOf nm d → Ex F F' → Sat (Bs.nil g) K F' C' R H' → PX nm C' → E cls d H'
structure CalX (P : Program) (w : World) (K : PySem.W.Frag) (mg : Str → Option Value) (base : Heap) (k : Nat) (x : Str) (n : Nat) (asp : ASpX) : Prop where
  ex : ∃ (f : Addr) (fd : FuncData) (ps : List Str), FnG P w K mg base k f fd ps (spOfX ⟨w, mg⟩ K n asp) ∧ mg x = some (.ref f) ∧ PySem.W.keepIn K (.ref f) = true ∧ Binds K fd ps []
def aCallX (W : AX') (asp : ASpX) (a : AA') : AE' := fun s C P => a s C fun ds C1 => asp ds C1 P (W s)
theorem sim_callX {g : Gd} (hw : B.g = g) {n : Nat} {asp : ASpX} {ta : TA} {a : AA'} (rel : WR B K g.mg W Wk) (ha : SimA B K n ta a) : SimE B K (tCallS (spOfX g K n asp) (WE Wk) ta) (aCallX W asp a) := by
  subst hw
  intro σ s F C R H Q P hs hS h k
  refine ha σ s F C R H _ _ hs hS h fun ds vs F1 C1 H1 e1 S1 r1 hl h1 => ?_
  exact ⟨by rw [r1.length, hl], F1, C1, R, ds, P, W s, S1.nil, r1, h1, fun d v F2 C2 H2 e2 S2 r2 h2 => k d v F2 C2 H2 (e1.trans e2) (S1.back e2 S2) r2 h2,
    fun nm cls d F2 C2 H2 hm hd e2 S2 h2 => rel nm cls d s σ F2 C2 H2 hm hd (hs.mono (e1.trans e2)) (S1.back e2 S2).at0 h2⟩
variable {e : Expr} {es : List Expr} {n : Nat} {t : TA} {a : AA'} {asp : ASpX} {k i : Nat}
theorem ae_callX {g : Gd} (c : CalX X.prog X.w K X.mg X.base k x n asp) (hr : Room i X.A) (hgd : X.A.guards = some []) (tk : Takes X Wk) (rel : WR B K g.mg W Wk) (ha : AA B X (e :: es) n t a) (hw : B.g = g := by first | rfl | assumption) (hX : (⟨X.w, X.mg⟩ : Gd) = g := by rfl) (hk : k ≤ i := by decide) (hg : Gl X x := by rfl)
    (hdb : (x == ("__debug__" : Str)) = false := by decide) (he : starEach (e :: es) X.env = (false, eval e X.env) :: starEach es X.env := by rfl) (hpl : (backTo pos (starEach es X.env)).any (·.1) = false := by rfl) (hK : X.K = K := by rfl) :
    AE B X (.Call (.Name x p) (e :: es) [] pos) (tCallS (spOfX g K n asp) (WE Wk) t) (aCallX W asp a) := by
  subst hK
  exact ⟨by
  obtain ⟨f, fd, ps, F, hm, kp, b⟩ := c.ex
  rw [← hX]
  exact pe_callG F (hr.mono hk) hgd hg hm kp b (fun σ => passAt tk σ) ha.pa hdb he hpl, sim_callX hw rel ha.sim⟩
end
def aBodyX (n : Nat) (b : AX' → AS') : ASpX := fun ds C P PX => b (fun _ nm C' => PX nm C') ⟨fun _ C' => P .non C', P, fun _ _ => False, fun _ _ => False⟩ (ds.map some ++ List.replicate (n - ds.length) none) C
theorem calX {P : Program} {w : World} {K : PySem.W.Frag} {mg : Str → Option Value} {base : Heap} {x y qual : Str} {st : Stmt} {f : Addr} {fd : FuncData} {N ps : List Str} {k n : Nat} {b : AX' → AS'} {asp : ASpX} (F : L2.Fun K x qual st f fd) (S : FnScope N ps (defScope st)) (hn : ps.length = n) (hm : mg y = some (.ref f)) (hb : Binds K fd ps [])
    (hbody : ∀ (B : Bs) (hw : B.g = ⟨w, mg⟩) (W : AX') (Wk : WX) (cdv : Value) (A : Around) (outer : List Env) (s : Shared) (H : Hp) (E : XK), Room k (A.deeper (envOfC qual (defScope st) s.heap.objs.size f cdv)) → A.guards = some [] →
      Takes (cxOf (L2.CX P w) P w K mg base N qual (defScope st) f cdv A outer s H E) Wk → WR B K mg W Wk →
      PassesOwn (model P w) (cxOf (L2.CX P w) P w K mg base N qual (defScope st) f cdv A outer s H E).A (cxOf (L2.CX P w) P w K mg base N qual (defScope st) f cdv A outer s H E).env (cxOf (L2.CX P w) P w K mg base N qual (defScope st) f cdv A outer s H E).xe →
      ∃ ts, ASs B (cxOf (L2.CX P w) P w K mg base N qual (defScope st) f cdv A outer s H E) (defBody st) ts (b W))
    (h : ∀ ds C P PX, ds.length = n → asp ds C P PX → aBodyX N.length b ds C P PX) : CalX P w K mg base (k + 1) y n asp := by
  subst hn
  refine ⟨f, fd, ps, fnG_of F S (fun vs H Q E z => z.1) (fun cdv A outer s H vs Q E hr hg z => ?_), hm, F.kp, hb⟩
  obtain ⟨hl, F1, C, R, ds, P1, PX, hS, hR, ha, hk, hx⟩ := z
  obtain ⟨ts, hps⟩ := hbody ⟨F1, R, ⟨w, mg⟩⟩ rfl (fun _ nm C' => PX nm C') (fun cls d _ H' => E cls d H') cdv A outer s H E hr hg (takes_of rfl rfl rfl rfl)
    (fun nm cls d s2 σ2 F2 C2 H2 hm2 hd2 hs2 S2 h2 => hx nm cls d F2 C2 H2 hm2 hd2 S2.bF S2.nil h2) (passes_of rfl)
  refine ⟨ts, hps.ps, ?_⟩
  have hb2 := h ds C P1 PX (by rw [← hR.length, hl]) ha
  refine hps.sim { nx := fun _ H' => Q .non H', rt := Q } ⟨fun _ C' => P1 .non C', P1, fun _ _ => False, fun _ _ => False⟩ _ _ F1 C R H ⟨fun s σ F' C' H' e _ S h => ?_, fun d v F' C' H' e r S h => ?_, fun _ _ _ _ _ _ _ _ h => h.elim, fun _ _ _ _ _ _ _ _ h => h.elim⟩ (Slo.start hR N.length) (hS.rebase rfl (Ex.refl _) (Ex.refl _)) hb2
  · exact hk .non .non F' C' H' e S.nil .non h
  · exact hk d v F' C' H' e S.nil r h
def aHand (sub : Str → Str → Option Bool) (Wout : AX') (E : AEnds) : List (Str × AS') → AX'
  | [] => Wout
  | (c, h) :: r => fun s nm C => match sub nm c with | some true => h E s C | some false => aHand sub Wout E r s nm C | none => False
def aTry (sub : Str → Str → Option Bool) (body : AX' → AS') (hds : List (Str × AS')) (Wout : AX') : AS' := fun E s C => body (aHand sub Wout E hds) E s C
/-- what is known of which class is below which -/
def SubF (K : PySem.W.Frag) (mg : Str → Option Value) (sub : Str → Str → Option Bool) : Prop := ∀ nm c b cls cc, sub nm c = some b → mg nm = some cls → mg c = some cc → PySem.W.exmOne K cls cc = some b
inductive AHds (X : Cx) : List ExceptHandler → List (Value × (Addr → Value → Option Addr → TS)) → List (Str × AS') → Prop
  | nil : AHds X [] [] []
  | cons {x : Str} {c : Value} {ts : TS} {ha : AS'} {b₀ : Stmt} {suite : List Stmt} {np pos' : Pos} {hds : List ExceptHandler} {l : List (Value × (Addr → Value → Option Addr → TS))} {la : List (Str × AS')} (hm : X.mg x = some c) (hg : Gl X x) (hdb : (x == ("__debug__" : Str)) = false)
      (hsu : ∀ (B : Bs) (hw : B.g = ⟨X.w, X.mg⟩) (a : Addr) (oe : Obj) (pn : List (Addr × Obj)), ASs B (X.suite a ((a, oe) :: pn)) (b₀ :: suite) ts ha) (r : AHds X hds l la) :
      AHds X (.ExceptHandler (some (.Name x np)) none (b₀ :: suite) pos' :: hds) ((c, fun _ _ _ => ts) :: l) ((x, ha) :: la)
section
variable {X : Cx} {body : List Stmt} {h₀ : ExceptHandler} {hds : List ExceptHandler} {l : List (Value × (Addr → Value → Option Addr → TS))} {la : List (Str × AS')} {pos : Pos} {tb : WX → TS} {W : AX'} {Wk : WX} {ab : AX' → AS'} {sub : Str → Str → Option Bool}
theorem AHds.ok {hds : List ExceptHandler} (h : AHds X hds l la) : HdsOk X hds l := by
  induction h with
  | nil => exact .nil
  | cons hm hg hdb hsu r ih => exact .cons ⟨hg, hdb, .inl hm⟩ (fun a oe cls d pn _ _ => (hsu (Bs.nil ⟨X.w, X.mg⟩) rfl a oe pn).ps) ih
theorem takes_any (hs : X.stack = X.env :: X.outer) (hf : X.env.frame = some X.env.locals) (pn : List (Addr × Obj)) : Takes (X.tr pn fun e s₁ => wpAny (model X.prog X.w) X.A (noteFrame e X.env) (fun _ _ => True) (fun _ _ => True) s₁) Wk := by
  intro u s' xx
  obtain ⟨a, B, sI, pins', σ', H', cls, d, rfl, J', nb, up, sky, na, os, ag, w⟩ := xx
  have hfr : X.A.frames = some (X.env :: X.outer) := by
    have := J'.ok.frames
    rw [show (X.tr pn fun e s₁ => wpAny (model X.prog X.w) X.A (noteFrame e X.env) (fun _ _ => True) (fun _ _ => True) s₁).stack = X.stack from rfl, hs] at this
    exact this
  have sky' : Sky B (X.env :: X.outer) a (Zc cls d) X.env.locals s'.heap := by rw [← hs]; exact sky
  exact wpAny_mono (Sky.land (Q := fun _ _ => True) (E₁ := fun _ _ => True) Zc.steady hfr hf sky' fun _ _ _ => trivial) (fun _ _ _ => trivial) (fun _ _ _ => trivial)
theorem EndsR.ground {K : PySem.W.Frag} {F R : Hp} {E : AEnds} {D' : Ends} (hE : EndsR B K F R E D') (hbF : Ex B.F0 F) (hbR : Ex B.R0 R) : EndsR ⟨F, R, B.g⟩ K F R E D' :=
  ⟨fun s σ F' C' H' e hs S h => hE.nx s σ F' C' H' e hs (S.rebase rfl (hbF.trans e) hbR) h, fun d v F' C' H' e r S h => hE.rt d v F' C' H' e r (S.rebase rfl (hbF.trans e) hbR) h,
    fun s σ F' C' H' e hs S h => hE.bk s σ F' C' H' e hs (S.rebase rfl (hbF.trans e) hbR) h, fun s σ F' C' H' e hs S h => hE.ct s σ F' C' H' e hs (S.rebase rfl (hbF.trans e) hbR) h⟩
/-- a def that lets nothing out, from one whose walk tells so -/
theorem AE.nox {e : Expr} {t : TE} {a : AE'} (h : AE B X.nox e t a) : AE B X e t a := ⟨h.pe.nox, h.sim⟩
theorem ASs.nox {st : List Stmt} {t : TS} {a : AS'} (h : ASs B X.nox st t a) : ASs B X st t a := ⟨h.ps.nox, h.sim⟩
theorem PS.nox {st : Stmt} {t : TS} (h : PS X.nox st t) : PS X st t := ⟨fun pins s σ H D I hw =>
  wpAny_mono (h.run pins s σ H D (I.wish _) hw) (fun _ _ q => q.unwish) fun _ _ z => False.elim z⟩
theorem AS.nox {st : Stmt} {t : TS} {a : AS'} (h : AS B X.nox st t a) : AS B X st t a := ⟨PS.nox h.ps, h.sim⟩
theorem AT.nox {e : Expr} {t : TT} {a : AT'} (h : AT B X.nox e t a) : AT B X e t a := ⟨h.pt.nox, h.sim⟩
theorem takes_no : Takes X fun _ _ _ _ => False := fun u s' x => by
  obtain ⟨_, _, _, _, _, _, _, _, _, _, _, _, _, _, _, _, w⟩ := x
  exact w.elim
theorem wr_no {K : PySem.W.Frag} {mg : Str → Option Value} : WR B K mg (fun _ _ _ => False) fun _ _ _ _ => False := fun _ _ _ _ _ _ _ _ _ _ _ _ h => h
end
/-- which class is below which, by a list -/
def subL (l : List (Str × Str × Bool)) : Str → Str → Option Bool := fun nm c => match l with
  | [] => none
  | (a, b, r) :: l => if nm = a ∧ c = b then some r else subL l nm c
theorem subF_nil {K : PySem.W.Frag} {mg : Str → Option Value} : SubF K mg (subL []) := fun _ _ _ _ _ h => by cases h
theorem subF_cons {K : PySem.W.Frag} {mg : Str → Option Value} {a b : Str} {r : Bool} {l : List (Str × Str × Bool)} {C1 C2 : Value} (h1 : mg a = some C1) (h2 : mg b = some C2) (h : PySem.W.exmOne K C1 C2 = some r) (t : SubF K mg (subL l)) : SubF K mg (subL ((a, b, r) :: l)) := by
  intro nm c q cls cc e m1 m2
  unfold subL at e
  split at e
  · rename_i z
    obtain ⟨rfl, rfl⟩ := z
    rw [h1] at m1; rw [h2] at m2
    cases m1; cases m2; cases e
    exact h
  · exact t nm c q cls cc e m1 m2
theorem exm_of {K : PySem.W.Frag} {S T : Addr} {r : Bool} (h1 : PySem.W.subIn K (.ref T) (.type "BaseException") = some true) (h2 : PySem.W.isClsIn K T = true) (h3 : PySem.W.typeIn K (.ref T) = some (.type "type")) (h4 : PySem.W.subIn K (.ref S) (.ref T) = some r) :
    PySem.W.exmOne K (.ref S) (.ref T) = some r := by
  have e1 : (PySem.W.subIn K (.ref T) (.type "BaseException") == some true) = true := by rw [h1] <;> rfl
  have e2 : ((PySem.W.clsIn K T).isSome && PySem.W.typeIn K (.ref T) == some (.type "type")) = true := by
    have h2' : (PySem.W.clsIn K T).isSome = true := h2
    rw [h2', h3] <;> rfl
  show (if (PySem.W.subIn K (.ref T) (.type "BaseException") == some true) = true then (if ((PySem.W.clsIn K T).isSome && PySem.W.typeIn K (.ref T) == some (.type "type")) = true then PySem.W.subIn K (.ref S) (.ref T) else none) else none) = some r
  rw [if_pos e1, if_pos e2]
  exact h4
section
variable {C : AH} {P : D → AH → Prop} {PX : Str → AH → Prop} {W : AX'} {E : AEnds} {s : ASt}
theorem g_bodyX {n : Nat} {b : AX' → AS'} {ds : List D} {s : ASt} (h0 : ds.map some ++ List.replicate (n - ds.length) none = s) (h : b (fun _ nm C' => PX nm C') ⟨fun _ C' => P .non C', P, fun _ _ => False, fun _ _ => False⟩ s C) : aBodyX n b ds C P PX := by
  subst h0
  exact h
theorem g_callX {asp : ASpX} {a : AA'} (h : a s C fun ds C1 => asp ds C1 P (W s)) : aCallX W asp a s C P := h
theorem g_raise {nm : Str} (h : W s nm C) : aRaise W nm E s C := h
theorem g_try {sub : Str → Str → Option Bool} {body : AX' → AS'} {hds : List (Str × AS')} (h : body (aHand sub W E hds) E s C) : aTry sub body hds W E s C := h
end
end AL
namespace AL
open PySem PySem.Spec PyProof.Rows L2
end AL
namespace AL
open PySem PySem.Spec PyProof.Rows L2
variable {B : Bs}
section
variable {X : Cx} {pos cpos apos : Pos} {o i e : Expr} {to ti te : TE} {ao ai ae : AE'} {K : PySem.W.Frag}
def aGet1 (o i : AE') : AE' := fun s C P => o s C fun x C1 => (asK C1 x).isSome = true ∧ i s C1 fun y C2 => match asK C2 x, keyOf y with
  | some es, some k => P ((valD es k).getD .non) C2
  | _, _ => False
def aGet2 (o i e : AE') : AE' := fun s C P => o s C fun x C1 => (asK C1 x).isSome = true ∧ i s C1 fun y C2 => e s C2 fun z C3 => match asK C3 x, keyOf y with
  | some es, some k => P ((valD es k).getD z) C3
  | _, _ => False
/-- {k: v}, k of any kind that may be -/
def aDispV (ak av : AE') : AE' := fun s C P => ak s C fun dk C1 => av s C1 fun dv C2 => match keyOf dk with
  | some k => ∀ p, C2 p = none → P (.ce p) (put C2 p (.dk [(k, dv)]))
  | none => False
end
section
variable {C : AH} {P : D → AH → Prop} {s : ASt} {o i e : AE'}
def kGet1 (i : AE') (s : ASt) (P : D → AH → Prop) : D → AH → Prop := fun x C1 => (asK C1 x).isSome = true ∧ i s C1 fun y C2 => match asK C2 x, keyOf y with
  | some es, some k => P ((valD es k).getD .non) C2
  | _, _ => False
theorem g_get1 (h : o s C (kGet1 i s P)) : aGet1 o i s C P := h
def kGet2 (i e : AE') (s : ASt) (P : D → AH → Prop) : D → AH → Prop := fun x C1 => (asK C1 x).isSome = true ∧ i s C1 fun y C2 => e s C2 fun z C3 => match asK C3 x, keyOf y with
  | some es, some k => P ((valD es k).getD z) C3
  | _, _ => False
theorem g_get2 (h : o s C (kGet2 i e s P)) : aGet2 o i e s C P := h
def kDispV (P : D → AH → Prop) (dk : D) : D → AH → Prop := fun dv C2 => match keyOf dk with
  | some k => ∀ p, C2 p = none → P (.ce p) (put C2 p (.dk [(k, dv)]))
  | none => False
theorem g_dispV {ak av : AE'} (h : ak s C fun dk C1 => av s C1 (kDispV P dk)) : aDispV ak av s C P := h
theorem g_kDispVI {i : Int} {dv : D} (h : ∀ p, C p = none → P (.ce p) (put C p (.dk [(.inl i, dv)]))) : kDispV P (.int i) dv C := h
end
end AL
namespace AL
open PySem PySem.Spec PyProof.Rows L2
variable {B : Bs}
abbrev KN : List (NestedKey × Addr × V) → List (NestedKey × Addr × Value) → Prop := Paired fun x y => x.1 = y.1 ∧ x.2.1 = y.2.1 ∧ RelV x.2.2 y.2.2
def valN {α : Type} (xs : List (NestedKey × Addr × α)) (k : NestedKey) : Option α := (xs.find? fun x => decide (x.1 = k)).map (·.2.2)
theorem valN_pos {α : Type} {x : NestedKey × Addr × α} {xs : List (NestedKey × Addr × α)} {k : NestedKey} (e : x.1 = k) : valN (x :: xs) k = some x.2.2 := by simp [valN, e]
theorem valN_neg {α : Type} {x : NestedKey × Addr × α} {xs : List (NestedKey × Addr × α)} {k : NestedKey} (e : ¬ x.1 = k) : valN (x :: xs) k = valN xs k := by simp [valN, e]
def putN (xs : List (NestedKey × Addr × V)) (k : NestedKey) (a : Addr) (v : V) : List (NestedKey × Addr × V) :=
  if (valN xs k).isSome = true then xs.map (fun x => if x.1 = k then (x.1, x.2.1, v) else x) else xs ++ [(k, a, v)]
theorem KN.val {xs : List (NestedKey × Addr × V)} {ys : List (NestedKey × Addr × Value)} (r : KN xs ys) (k : NestedKey) : RelO (valN xs k) ((atKey ys k).map (·.2)) := by
  induction r with
  | nil => exact True.intro
  | @cons p q ps qs h t ih =>
    obtain ⟨h1, _, h2⟩ := h
    by_cases e : p.1 = k
    · have e' : q.1 = k := h1.symm.trans e
      have b : atKey (q :: qs) k = some q.2 := by simp [atKey, List.find?_cons, e']
      rw [valN_pos e, b]; exact h2
    · have e' : ¬ q.1 = k := fun z => e (h1.trans z)
      have b : atKey (q :: qs) k = atKey qs k := by simp [atKey, List.find?_cons, e']
      rw [valN_neg e, b]; exact ih
theorem KN.put {xs : List (NestedKey × Addr × V)} {ys : List (NestedKey × Addr × Value)} (r : KN xs ys) (k : NestedKey) (b : Addr) {y : V} {u : Value} (ry : RelV y u) : KN (putN xs k b y) (storedH ys k b u) := by
  have e : (valN xs k).isSome = (atKey ys k).isSome := by rw [(r.val k).isSome_eq, Option.isSome_map]
  unfold putN storedH
  rw [e]
  by_cases q : (atKey ys k).isSome = true
  · rw [if_pos q, if_pos q]
    clear e q
    induction r with
    | nil => exact .nil
    | @cons p q ps qs h t ih =>
      rw [List.map_cons, List.map_cons]
      refine .cons ?_ ih
      obtain ⟨h1, h2, h3⟩ := h
      unfold putAt
      by_cases e : p.1 = k
      · rw [if_pos e, if_pos (h1.symm.trans e)]; exact ⟨h1, h2, ry⟩
      · rw [if_neg e, if_neg (fun z => e (h1.trans z))]; exact ⟨h1, h2, h3⟩
  · rw [if_neg q, if_neg q]; exact Paired.snoc r ⟨rfl, rfl, ry⟩
/-- the keys of the entries stand -/
def KeysN (H : Hp) (xs : List (NestedKey × Addr × V)) : Prop := ∀ x ∈ xs, VKey H (.ref x.2.1) x.1 ∧ x.1.depth ≤ 8
theorem KeysN.put {H : Hp} {xs : List (NestedKey × Addr × V)} (r : KeysN H xs) {k : NestedKey} {a : Addr} {v : V} (hk : VKey H (.ref a) k) (hd : k.depth ≤ 8) : KeysN H (putN xs k a v) := by
  unfold putN
  intro x hx
  split at hx
  · obtain ⟨y, hy, rfl⟩ := List.mem_map.mp hx
    split
    · exact r y hy
    · exact r y hy
  · rcases List.mem_append.mp hx with q | q
    · exact r x q
    · rw [List.mem_singleton.mp q]; exact ⟨hk, hd⟩
end AL
namespace AL
open PySem PySem.Spec PyProof.Rows L2
end AL
namespace AL
open PySem PySem.Spec PyProof.Rows L2
variable {B : Bs}
def keysW (es : List (D × D)) : List (NestedKey × D) := es.map fun kv => ((keyT kv.1).getD .none, kv.2)
def asN (C : AH) : D → Option (List (NestedKey × D))
  | .ce p => (match C p with | some (.dn es) => some es | some (.dw _ es) => some (keysW es) | _ => none)
  | _ => none
def valND (es : List (NestedKey × D)) (k : NestedKey) : Option D := (es.find? fun kv => decide (kv.1 = k)).map (·.2)
def putND (es : List (NestedKey × D)) (k : NestedKey) (d : D) : List (NestedKey × D) :=
  if (valND es k).isSome = true then es.map (fun kv => if kv.1 = k then (kv.1, d) else kv) else es ++ [(k, d)]
/-- the same where the keys are told -/
def putW (es : List (D × D)) (kd : D) (d : D) : List (D × D) :=
  if (valND (keysW es) ((keyT kd).getD .none)).isSome = true then es.map (fun kv => if (keyT kv.1).getD .none = (keyT kd).getD .none then (kv.1, d) else kv) else es ++ [(kd, d)]
/-- what a dict holds at a key; none: not to be told -/
def lookD (C : AH) (x y : D) : Option (Option D) := match asK C x with
  | some es => (match keyOf y with | some k => some (valD es k) | none => if isNon y = true then some none else none)
  | none => (match asN C x, keyT y with | some es, some k => some (valND es k) | _, _ => none)
section
variable {K : PySem.W.Frag} {F F' : Hp} {C : AH} {R H : Hp}
mutual
theorem keyN_ok : ∀ {d : D} {v : V} {k : NestedKey}, Rep K F v d → keyN d = some k → VKey F v k
  | .non, _, _, r, h => by cases r; cases h; exact .non
  | .bl b, _, _, r, h => by cases r; cases h; exact .bl b
  | .int i, _, _, r, h => by cases r; cases h; exact .int i
  | .str x, _, _, r, h => by cases r; cases h; exact .str x
  | .tup ds, _, _, r, h => by
    cases r with
    | tup h1 h2 =>
      unfold keyN at h
      obtain ⟨ks, q, rfl⟩ := Option.map_eq_some_iff.mp h
      exact .tup h1.1 (keyNs_ok h2 q)
  | .lst _, _, _, _, h => by unfold keyN at h; cases h
  | .dk _, _, _, _, h => by unfold keyN at h; cases h
  | .scr _, _, _, _, h => by unfold keyN at h; cases h
  | .ce _, _, _, _, h => by unfold keyN at h; cases h
theorem keyNs_ok : ∀ {ds : List D} {vs : List V} {ks : List NestedKey}, RepL K F vs ds → keyNs ds = some ks → VKeys F vs ks
  | [], _, _, r, h => by cases r; cases h; exact .nil
  | d :: ds, _, _, r, h => by
    cases r with
    | cons r1 r2 =>
      unfold keyNs at h
      split at h
      · rename_i q1 q2
        cases h
        exact .cons (keyN_ok r1 q1) (keyNs_ok r2 q2)
      · cases h
end
theorem keyT_ok {d : D} {v : V} {k : NestedKey} (r : Rep K F v d) (h : keyT d = some k) : ∃ b, v = .ref b ∧ VKey F v k ∧ k.depth ≤ 8 := by
  unfold keyT at h
  split at h
  · rename_i ht
    split at h
    · rename_i k' q
      split at h
      · rename_i hd
        cases h
        have := keyN_ok r q
        cases d <;> first | (cases ht; done) | skip
        cases r with
        | tup h1 h2 => exact ⟨_, rfl, this, hd⟩
      · cases h
    · cases h
  · cases h
theorem RepN.val (k : NestedKey) : ∀ {xs : List (NestedKey × Addr × V)} {es : List (NestedKey × D)}, RepN K F xs es → (match valND es k with | some d => ∃ v, valN xs k = some v ∧ Rep K F v d | none => valN xs k = none)
  | _, _, .nil => rfl
  | (j, a, v) :: xs, (_, d) :: es, .cons q b r t => by
    have ih := RepN.val k t
    by_cases e : j = k
    · subst e
      rw [valN_pos rfl]
      simp only [valND, List.find?_cons, decide_true, Option.map_some]
      exact ⟨v, rfl, r⟩
    · rw [valN_neg e]
      simp only [valND, List.find?_cons, decide_eq_false e]
      exact ih
theorem RepN.len : ∀ {xs : List (NestedKey × Addr × V)} {es : List (NestedKey × D)}, RepN K F xs es → xs.length = es.length
  | _, _, .nil => rfl
  | _, _, .cons _ _ _ t => by rw [List.length_cons, List.length_cons, RepN.len t]
theorem RepN.some_eq (k : NestedKey) {xs : List (NestedKey × Addr × V)} {es : List (NestedKey × D)} (h : RepN K F xs es) : (valN xs k).isSome = (valND es k).isSome := by
  have := h.val k
  cases q : valND es k with
  | none => rw [q] at this; rw [show valN xs k = none from this]; rfl
  | some d => rw [q] at this; obtain ⟨v, e, _⟩ := this; rw [e]; rfl
theorem RepN.repl (k : NestedKey) {v : V} {d : D} (r : Rep K F v d) : ∀ {xs : List (NestedKey × Addr × V)} {es : List (NestedKey × D)}, RepN K F xs es → RepN K F (xs.map fun x => if x.1 = k then (x.1, x.2.1, v) else x) (es.map fun kv => if kv.1 = k then (kv.1, d) else kv)
  | _, _, .nil => .nil
  | (j, a, _) :: _, _, .cons q1 q2 q t => by
    rw [List.map_cons, List.map_cons]
    by_cases e : j = k
    · rw [if_pos e, if_pos e]; exact .cons q1 q2 r (RepN.repl k r t)
    · rw [if_neg e, if_neg e]; exact .cons q1 q2 q (RepN.repl k r t)
theorem RepN.snoc {k : NestedKey} {a : Addr} {v : V} {d : D} (h1 : VKey F (.ref a) k) (h2 : k.depth ≤ 8) (r : Rep K F v d) : ∀ {xs : List (NestedKey × Addr × V)} {es : List (NestedKey × D)}, RepN K F xs es → RepN K F (xs ++ [(k, a, v)]) (es ++ [(k, d)])
  | _, _, .nil => .cons h1 h2 r .nil
  | _, _, .cons q1 q2 q t => .cons q1 q2 q (RepN.snoc h1 h2 r t)
theorem RepN.put {k : NestedKey} {a : Addr} {v : V} {d : D} (h1 : VKey F (.ref a) k) (h2 : k.depth ≤ 8) (r : Rep K F v d) {xs : List (NestedKey × Addr × V)} {es : List (NestedKey × D)} (h : RepN K F xs es) : RepN K F (putN xs k a v) (putND es k d) := by
  unfold putN putND
  rw [h.some_eq k]
  split
  · exact RepN.repl k r h
  · exact RepN.snoc h1 h2 r h
theorem RepW.toN : ∀ {xs : List (NestedKey × Addr × V)} {es : List (D × D)}, RepW K F xs es → RepN K F xs (keysW es)
  | _, _, .nil => .nil
  | _, _, .cons (k := k) (kd := kd) (d := d) (ds := ds) a b r t => by
    obtain ⟨c, e1, h1, h2⟩ := keyT_ok a b
    have e : keysW ((kd, d) :: ds) = (k, d) :: keysW ds := by unfold keysW; rw [List.map_cons, b]; rfl
    rw [e]
    exact .cons h1 h2 r (RepW.toN t)
theorem RepW.repl (k : NestedKey) {v : V} {d : D} (r : Rep K F v d) : ∀ {xs : List (NestedKey × Addr × V)} {es : List (D × D)}, RepW K F xs es → RepW K F (xs.map fun x => if x.1 = k then (x.1, x.2.1, v) else x) (es.map fun kv => if (keyT kv.1).getD .none = k then (kv.1, d) else kv)
  | _, _, .nil => .nil
  | (j, a, _) :: _, _, .cons q1 q2 q t => by
    rw [List.map_cons, List.map_cons]
    have e1 := q2
    by_cases e : j = k
    · rw [if_pos e, if_pos (show (keyT _).getD NestedKey.none = k by rw [q2]; exact e)]; exact .cons q1 q2 r (RepW.repl k r t)
    · rw [if_neg e, if_neg (show ¬ (keyT _).getD NestedKey.none = k by rw [q2]; exact e)]; exact .cons q1 q2 q (RepW.repl k r t)
theorem RepW.snoc {k : NestedKey} {a : Addr} {v : V} {kd d : D} (h1 : Rep K F (.ref a) kd) (h2 : keyT kd = some k) (r : Rep K F v d) : ∀ {xs : List (NestedKey × Addr × V)} {es : List (D × D)}, RepW K F xs es → RepW K F (xs ++ [(k, a, v)]) (es ++ [(kd, d)])
  | _, _, .nil => .cons h1 h2 r .nil
  | _, _, .cons q1 q2 q t => .cons q1 q2 q (RepW.snoc h1 h2 r t)
theorem RepW.put {k : NestedKey} {a : Addr} {v : V} {kd d : D} (h1 : Rep K F (.ref a) kd) (h2 : keyT kd = some k) (r : Rep K F v d) {xs : List (NestedKey × Addr × V)} {es : List (D × D)} (h : RepW K F xs es) : RepW K F (putN xs k a v) (putW es kd d) := by
  unfold putN putW
  rw [h.toN.some_eq k, show (keyT kd).getD NestedKey.none = k by rw [h2]; rfl]
  split
  · exact RepW.repl k r h
  · exact RepW.snoc h1 h2 r h
def OkO (K : PySem.W.Frag) (F : Hp) (o : Option V) (r : Option D) : Prop := match r with | some d => ∃ z, o = some z ∧ Rep K F z d | none => o = none
theorem OkO.k {kvs : List (Key × V)} {es : List (Key × D)} {k : Key} (h : RepK K F kvs es) : OkO K F (valV kvs k) (valD es k) := by
  have := RepK.val k h
  unfold OkO
  cases q : valD es k with
  | none => rw [q] at this; exact this
  | some d => rw [q] at this; exact this
end
section
variable {X : Cx} {pos cpos apos p2 : Pos} {o i e : Expr} {to ti te : TE} {ao ai a : AE'} {K : PySem.W.Frag}
def aGetN (o i : AE') : AE' := fun s C P => o s C fun x C1 => i s C1 fun y C2 => match lookD C2 x y with
  | some (some d) => P d C2
  | _ => False
def aInN (neg : Bool) (i o : AE') : AE' := fun s C P => i s C fun y C1 => o s C1 fun x C2 => match lookD C2 x y with
  | some r => P (.bl (if neg then !r.isSome else r.isSome)) C2
  | none => False
def isDic (C : AH) (x : D) : Bool := (asK C x).isSome || (asN C x).isSome
def aGet1N (o i : AE') : AE' := fun s C P => o s C fun x C1 => isDic C1 x = true ∧ i s C1 fun y C2 => match lookD C2 x y with
  | some r => P (r.getD .non) C2
  | none => False
/-- d[k] = e -/
def aPutN (o i e : AE') : AS' := fun E s C => e s C fun d C1 => o s C1 fun x C2 => i s C2 fun y C3 => match x with
  | .ce p => (match C3 p with
    | some (.dk es) => (match keyOf y with | some k => es.length < sizeLine ∧ E.nx s (put C3 p (.dk (putD es k d))) | none => False)
    | some (.dn es) => (match keyT y with | some k => es.length < sizeLine ∧ E.nx s (put C3 p (.dn (putND es k d))) | none => False)
    | some (.dw none es) => (match keyT y with | some _ => es.length < sizeLine ∧ E.nx s (put C3 p (.dw none (putW es y d))) | none => False)
    | _ => False)
  | _ => False
end
end AL
namespace AL
open PySem PySem.Spec PyProof.Rows L2
variable {B : Bs}
theorem inv_known {X : Cx} {pins : List (Addr × Obj)} {σ : L2.St} {H : Hp} {s sI : Shared} {a : Addr} {o : HO} (I : Inv X pins σ H s) (J : Inv X pins σ H sI) (hI : sI.heap.get? a = none) (na : H a = none) (nL : a ≠ X.env.locals) (nF : a ∉ X.fs)
    (hc : ∀ v, ¬ s.heap.IsCell a v) (new : ObjOk X.prog X.w (upd H a o) s.heap a o) : Inv X pins σ (upd H a o) s := by
  have nit : ∀ b u, H b = some u → b ≠ a := fun b u e z => by rw [z, na] at e; cases e
  have up : ∀ b u, H b = some u → upd H a o b = some u := fun b u e => by rw [upd_ne (nit b u e)]; exact e
  have old : ∀ ob, X.s_0.heap.get? a = some ob → a ∈ X.ex := fun ob e => by
    by_cases hx : a ∈ X.ex
    · exact hx
    · obtain ⟨o', e'⟩ := J.base.there a ob e hx
      rw [hI] at e'; cases e'
  refine ⟨I.ok, I.os, I.bare, ⟨I.base.keep, I.base.slot, fun b ob e n hx => ?_, I.base.there, fun b xs e => up b _ (I.base.tups b xs e), fun b ob u e => up b _ (I.base.frzs b ob u e), fun b ps e => ?_⟩, I.loc, I.cell, ?_, fun x c e => ?_, fun p hp => ?_, fun b u e => ?_, I.len⟩
  · have hb : b ≠ a := fun z => by subst z; exact hx (old ob e)
    rw [upd_ne hb]
    exact I.base.free b ob e n hx
  · obtain ⟨more, e'⟩ := I.base.tbls b ps e
    exact ⟨more, up b _ e'⟩
  · rw [upd_ne (Ne.symm nL)]
    exact I.free
  · have hb : c ≠ a := fun z => by
      obtain ⟨v, q⟩ := I.cell x c e
      rw [z] at q
      exact hc v q
    rw [upd_ne hb]
    exact I.freeC x c e
  · obtain ⟨h1, h2, h3⟩ := I.pin p hp
    have hb : p.1 ≠ a := fun z => by
      have := (J.pin p hp).1
      rw [z, hI] at this; cases this
    exact ⟨h1, by rw [upd_ne hb]; exact h2, h3⟩
  · by_cases hb : b = a
    · rw [hb, upd_same] at e
      cases e
      rw [hb]
      exact new
    · rw [upd_ne hb] at e
      exact (I.hok b u e).stay (fun c v _ q => q) (fun c q => up c _ q) fun c _ q => up c _ q
theorem inv_suite {X : Cx} {pins : List (Addr × Obj)} {σ : L2.St} {H : Hp} {s : Shared} (I : Inv X pins σ H s) (a : Addr) : Inv (X.suite a (X.pn ++ pins)) [] σ H s :=
  ⟨I.ok.suite _ _, I.os, I.bare, I.base, I.loc, I.cell, I.free, I.freeC, fun p hp => by
    have hp' : p ∈ X.pn ++ pins := by rw [List.append_nil] at hp; exact hp
    exact I.pin p hp', I.hok, I.len⟩
theorem inv_unsuite {X : Cx} {pins : List (Addr × Obj)} {σ : L2.St} {H : Hp} {s : Shared} {a : Addr} (I : Inv (X.suite a (X.pn ++ pins)) [] σ H s) (ok : X.Ok) : Inv X pins σ H s :=
  ⟨ok, I.os, I.bare, I.base, I.loc, I.cell, I.free, I.freeC, fun p hp => I.pin p (by show p ∈ (X.pn ++ pins) ++ []; rw [List.append_nil]; exact hp), I.hok, I.len⟩
/-- the ends behind a suite whose clause names slot i -/
def goneE (i : Nat) (D : Ends) : Ends := { nx := fun σ' H' => D.nx (σ'.set i none) H', rt := D.rt, bk := fun σ' H' => D.bk (σ'.set i none) H', ct := fun σ' H' => D.ct (σ'.set i none) H' }
/-- what the clauses wish, one after the other: (classes, slot, suite) -/
def wManyA (K : PySem.W.Frag) (Wout : WX) (D : Ends) : List (List Value × Nat × TS) → WX
  | [] => Wout
  | (c, i, ts) :: r => fun cls d σ H => ∃ b, PySem.W.exmAny K cls c = some b ∧ (b = true → if i = 999 then ts D σ H else d = none ∧ ∀ a, H a = none → ts (goneE i D) (σ.set i (some (.ref a))) (upd H a (.ext (ExcAt cls a)))) ∧ (b = false → wManyA K Wout D r cls d σ H)
inductive HdsA (X : Cx) : List ExceptHandler → List (List Value × Nat × TS) → Prop
  | nil : HdsA X [] []
  | cons {x n : Str} {c : Value} {i : Nat} {ts : TS} {b₀ : Stmt} {suite : List Stmt} {np pos' : Pos} {hds : List ExceptHandler} {l : List (List Value × Nat × TS)} (hc : Names X x c) (hi : X.N[i]? = some n) (hln : X.env.kindOf n = some .local)
      (hsu : ∀ (a : Addr) (pn : List (Addr × Obj)), PSs (X.suite a pn) (b₀ :: suite) ts) (r : HdsA X hds l) (h9 : i ≠ 999) :
      HdsA X (.ExceptHandler (some (.Name x np)) (some n) (b₀ :: suite) pos' :: hds) (([c], i, ts) :: l)
  | cons2 {x x2 n : Str} {c c2 : Value} {i kk : Nat} {ts : TS} {b₀ : Stmt} {suite : List Stmt} {np np2 tp pos' : Pos} {hds : List ExceptHandler} {l : List (List Value × Nat × TS)} (hc : Names X x c) (hc2 : Names X x2 c2) (hi : X.N[i]? = some n) (hln : X.env.kindOf n = some .local)
      (hsu : ∀ (a : Addr) (pn : List (Addr × Obj)), PSs (X.suite a pn) (b₀ :: suite) ts) (r : HdsA X hds l) (h9 : i ≠ 999) :
      HdsA X (.ExceptHandler (some (.Tuple [.Name x np, .Name x2 np2] kk tp)) (some n) (b₀ :: suite) pos' :: hds) (([c, c2], i, ts) :: l)
  | cons3 {x x2 x3 : Str} {c c2 c3 : Value} {kk : Nat} {ts : TS} {b₀ : Stmt} {suite : List Stmt} {np np2 np3 tp pos' : Pos} {hds : List ExceptHandler} {l : List (List Value × Nat × TS)} (hc : Names X x c) (hc2 : Names X x2 c2) (hc3 : Names X x3 c3)
      (hsu : ∀ (a : Addr) (oe : Obj) (pn : List (Addr × Obj)), PSs (X.suite a ((a, oe) :: pn)) (b₀ :: suite) ts) (r : HdsA X hds l) :
      HdsA X (.ExceptHandler (some (.Tuple [.Name x np, .Name x2 np2, .Name x3 np3] kk tp)) none (b₀ :: suite) pos' :: hds) (([c, c2, c3], 999, ts) :: l)
theorem flyZ_keeps {base h h' : Heap} {l : List Env} {e : Addr} {Z : Obj → Prop} (x : HandSPX.FlyingZ base l e Z h) (k : ∀ b o, h.get? b = some o → h'.get? b = some o) : HandSPX.FlyingZ base l e Z h' := by
  obtain ⟨f1, f2, f3, oe, vs, T, oT, ts, he, hz, hd, h1, hnT, hTe, hT, hdT, h3⟩ := x
  exact ⟨fun b o hb => k b o (f1 b o hb), f2, f3.of_keeps fun b o ho _ => ⟨o, k b o ho, rfl⟩, oe, vs, T, oT, ts, k _ _ he, hz, hd, h1, hnT, hTe, k _ _ hT, hdT, h3⟩
theorem excAt_ok {P : Program} {w : World} {H : Hp} {h : Heap} {a : Addr} {cls : Value} {oe : Obj} (he : h.get? a = some oe) (hz : Zc cls none oe) (hd : ∃ vs, oe.data = .fields vs) : ObjOk P w H h a (.ext (ExcAt cls a)) := by
  obtain ⟨vs, hd⟩ := hd
  exact ⟨⟨oe, vs, he, hz.1, hz.2, hd⟩, ⟨oe, he⟩, fun h1 h2 ⟨o, vs, e, r⟩ k => ⟨o, vs, k o e, r⟩⟩
section
variable {X : Cx} {body : List Stmt} {h₀ : ExceptHandler} {hds : List ExceptHandler} {l : List (List Value × Nat × TS)} {pos : Pos} {tb : WX → TS} {Wout : WX}
theorem ps_try_manyA (hN : X.N.Nodup) (hs : X.stack = X.env :: X.outer) (hf : X.env.frame = some X.env.locals) (tk : Takes X Wout)
    (hb : ∀ (W : WX) (pn : List (Addr × Obj)) (xe : Value → Shared → Prop), Takes (X.tr pn xe) W → PassesOwn (model X.prog X.w) X.A X.env xe → PSs (X.tr pn xe) body (tb W))
    (hh : HdsA X (h₀ :: hds) l) : PS X (.Try body (h₀ :: hds) [] [] pos) (fun D σ H => tb (wManyA X.K Wout D l) D σ H) := by
  refine ⟨fun pins s σ H D I h => ?_⟩
  have ok := I.ok
  have hfr : X.A.frames = some (X.env :: X.outer) := by rw [ok.frames, hs]
  refine wpAny_Try_except ?_
  refine wpAny_mono ((hb (wManyA X.K Wout D l) (X.pn ++ pins) (fun e s₁ => wpAny (model X.prog X.w) X.A (noteFrame e X.env) (fun _ s₂ => wpAny (model X.prog X.w) X.A (setFlight e none) (fun _ s₃ =>
    wpAny (model X.prog X.w) X.A (handleBy e X.env (h₀ :: hds)) (SP X pins D) X.xe s₃) X.xe s₂) X.xe s₁) (fun u s' xx => ?_) PassesOwn.looking).run [] s σ H D (I.toTry _) h) (fun f s1 hsp => ?_) (fun e s1 he => he)
  · -- the catch
    obtain ⟨a, B, sI, pins', σ', H', cls, d, rfl, J', nb, up, sky, na, os, ag, w⟩ := xx
    have J : Inv X pins σ' H' sI := J'.ofTry ok
    have sky' : Sky B (X.env :: X.outer) a (Zc cls d) X.env.locals s'.heap := by rw [← hs]; exact sky
    show wpAny (model X.prog X.w) X.A (noteFrame (.ref a) X.env) _ _ _
    refine Sky.land Zc.steady hfr hf sky' fun h3 fl0 up3 => ?_
    have go : ∀ {hds' : List ExceptHandler} {l' : List (List Value × Nat × TS)}, HdsA X hds' l' → ∀ h3, HandSPX.FlyingZ B (X.env :: X.outer) a (Zc cls d) h3 → s'.heap.UpToSlots h3 → wManyA X.K Wout D l' cls d σ' H' →
        wpAny (model X.prog X.w) X.A (handleBy (.ref a) X.env hds') (SP X pins D) X.xe { s' with heap := h3 } := by
      intro hds' l' hk
      have notFr : ∀ {h : Heap} {o : Obj} {vs : Array Value}, h.FunFrames B (X.env :: X.outer) → h.get? a = some o → o.data = .fields vs → a ∉ frs (X.env :: X.outer) := fun {h o vs} ff e dd hm => by
        obtain ⟨_, o', e', hnf⟩ := ff.mem hm
        rw [e] at e'; cases e'
        exact hnf _ dd
      obtain ⟨oe0, vs0, he0, hz0, hd0⟩ := fl0.there
      have nfr := notFr fl0.2.2.1 he0 hd0
      have hI : sI.heap.get? a = none := by
        cases q : sI.heap.get? a with
        | none => rfl
        | some o =>
          have := nb a o q (by rw [hs]; exact nfr)
          rw [fl0.2.1] at this; cases this
      have nL : a ≠ X.env.locals := fun z => nfr (List.mem_filterMap.mpr ⟨X.env, List.mem_cons_self, by rw [hf, z]⟩)
      have nF : a ∉ X.fs := fun hm => by
        obtain ⟨e, he, q⟩ := List.mem_filterMap.mp hm
        exact nfr (List.mem_filterMap.mpr ⟨e, List.mem_cons_of_mem _ he, q⟩)
      -- the suite of a clause that catches
      have suite_ : ∀ {n : Str} {i : Nat} {ts : TS} {b₀ : Stmt} {suite : List Stmt} {pos' : Pos}, X.N[i]? = some n → X.env.kindOf n = some .local → (∀ (a : Addr) (pn : List (Addr × Obj)), PSs (X.suite a pn) (b₀ :: suite) ts) →
          d = none → (∀ a, H' a = none → ts (goneE i D) (σ'.set i (some (.ref a))) (upd H' a (.ext (ExcAt cls a)))) → ∀ h3, HandSPX.FlyingZ B (X.env :: X.outer) a (Zc cls d) h3 → s'.heap.UpToSlots h3 → ∀ {E : Value → Shared → Prop},
          wpAny (model X.prog X.w) (X.A.mark (some (.ref a))) (setFlight (.ref a) none) (fun _ s5 => wpAny (model X.prog X.w) (X.A.mark (some (.ref a))) (storeName X.env n (.ref a)) (fun _ s6 => wpAny (model X.prog X.w) (X.A.mark (some (.ref a))) (execs (b₀ :: suite) X.env)
            (fun f s7 => wpAny (model X.prog X.w) X.A (do bindName X.env n .none; unbindBehindTheSuite X.env n pos') (fun _ s8 => SP X pins D f s8) X.xe s7) (fun _ _ => False) s6) (fun _ _ => False) s5) (fun _ _ => False) { s' with heap := h3 } := by
        intro n i ts b₀ suite pos' hi hln hsu hdn hy2 h3 fl3 up3 E
        subst hdn
        have hloc : Loc X.env.scope n := .inl hln
        refine HandSPX.lands_againZ fl3 fun h4 fl4 up4 => ?_
        have J4 : Inv X pins σ' H' { s' with heap := h4 } := J.landed nb fl4.1 ((up.trans up3).trans up4) os ag
        obtain ⟨oe4, vs4, he4, hz4, hd4⟩ := fl4.there
        have J5 := inv_known (o := .ext (ExcAt cls a)) J4 J hI na nL nF (fun v ⟨o, ho, hd⟩ => by
          have ho' : h4.get? a = some o := ho
          rw [he4] at ho'; cases ho'; rw [hd4] at hd; cases hd) (excAt_ok he4 hz4 ⟨_, hd4⟩)
        have S5 := inv_suite J5 a
        refine store_ok (X := X.suite a (X.pn ++ pins)) (v := .ref a) S5 hN hi hloc rfl (fun s6 S6 => ?_) (.inr hln)
        refine wpAny_mono ((hsu a (X.pn ++ pins)).run [] s6 _ _ _ S6 (hy2 a na)) (fun f s7 hsp => ?_) (fun _ _ z => False.elim z)
        have end_ : ∀ {σ6 : L2.St} {H6 : Hp} {Q : Shared → Prop} {s7 : Shared}, Inv (X.suite a (X.pn ++ pins)) [] σ6 H6 s7 → (∀ s8, Inv X pins (σ6.set i none) H6 s8 → Q s8) →
            wpAny (model X.prog X.w) X.A (do bindName X.env n .none; unbindBehindTheSuite X.env n pos') (fun _ s8 => Q s8) X.xe s7 := fun {σ6 H6 Q s7} S7 hq => L2.gone_ok (inv_unsuite S7 ok) hN hi hln hq
        cases f with
        | next =>
          obtain ⟨σ6, H6, S7, q6⟩ := hsp
          exact end_ S7 fun s8 J8 => ⟨_, _, J8, q6⟩
        | brk =>
          obtain ⟨σ6, H6, S7, q6⟩ := hsp
          exact end_ S7 fun s8 J8 => ⟨_, _, J8, q6⟩
        | cont =>
          obtain ⟨σ6, H6, S7, q6⟩ := hsp
          exact end_ S7 fun s8 J8 => ⟨_, _, J8, q6⟩
        | ret u =>
          obtain ⟨v6, σ6, H6, S7, r6, q6⟩ := hsp
          exact end_ S7 fun s8 J8 => ⟨_, _, _, J8, r6, q6⟩
      induction hk with
      | nil =>
        intro h3 fl3 up3 w
        refine wpAny_handleBy_nil ?_
        obtain ⟨k1, k2, k3, oe, vs, T, oT, ts', he, hz, hd, h1, hr⟩ := id fl3
        unfold PySem.passOn
        refine wpAny_bind (wpAny_field he hd h1 ?_)
        rw [if_neg (show ¬ ((Value.ref T == Value.none) = true) from by simp)]
        have fin : wpAny (model X.prog X.w) X.A (setFlight (.ref a) X.env.frame) (fun _ s4 => wpAny (model X.prog X.w) X.A (throw (.ref a) : Sem Flow) (SP X pins D) X.xe s4) X.xe { s' with heap := h3 } := by
          rw [hf]
          refine HandSPX.setFlight_upZ fl3 fun h4 hh4 up4 => wpAny_throw (tk _ _ ?_)
          exact ⟨a, B, sI, pins, σ', H', cls, d, rfl, J, nb, (up.trans up3).trans up4, .inr (.inr (by rw [hs]; exact hh4)), na, os, ag, w⟩
        first
          | exact wpAny_bind (wpAny_pure (wpAny_bind fin))
          | exact wpAny_bind fin
      | @cons x n c i ts b₀ suite np pos' hds2 l2 hc hi hln hsu r h9 ih =>
        intro h3 fl3 up3 w
        obtain ⟨b, hb1, hyes, hno⟩ := w
        have J3 : Inv X pins σ' H' { s' with heap := h3 } := J.landed nb fl3.1 (up.trans up3) os ag
        obtain ⟨oe3, vs3, he3, hz3, hd3⟩ := fl3.there
        have S3 := J3.suite he3 hd3 na nL nF
        refine wpAny_handleBy_cons (codeAny_handlers_test ?_) (by intro q; cases q)
        have LT : PySem.W.Looks (model X.prog X.w) h3 (typeOf (.ref a)) cls := fun A Q E s k q => wpAny_typeOf_ref (k _ _ he3) (by rw [hz3.1]; exact q)
        have hb0 : PySem.W.exmOne X.K cls c = some b := by
          obtain ⟨b1, d1, e1, e2, e3⟩ := PySem.W.exmAny_cons hb1
          cases e2
          rw [e1, e3, Bool.or_false]
        have LM := PySem.W.exm_one (M := model X.prog X.w) (J3.kIn) LT hb0
        have test : ∀ {Q : Value → Shared → Prop} {E : Value → Shared → Prop}, Q c { s' with heap := h3 } → wpAny (model X.prog X.w) (X.A.mark (some (.ref a))) (eval (.Name x np) X.env) Q E { s' with heap := h3 } := fun {Q E} q => by
          obtain ⟨hg, hdbg, hm | ⟨hm, hv, hnn⟩⟩ := hc
          · exact ld_glob (X := X.suite a ((a, oe3) :: (X.pn ++ pins))) S3 hg hm q hdbg
          · exact ld_blt (X := X.suite a ((a, oe3) :: (X.pn ++ pins))) S3 hg hm hv q hnn hdbg
        refine test (LM.here ?_)
        cases b with
        | true =>
          have hy0 := hyes rfl
          rw [if_neg h9] at hy0
          obtain ⟨hdn, hy2⟩ := hy0
          refine codeAny_handlers_suite_as ?_
          exact wpAny_mono (suite_ hi hln hsu hdn hy2 h3 fl3 up3 (E := fun _ _ => True)) (fun _ _ z => wpAny_mono z (fun _ _ z => wpAny_mono z (fun _ _ z => z) (fun _ _ z => z.elim)) (fun _ _ z => z.elim)) (fun _ _ z => z.elim)
        | false =>
          show wpAny _ X.A (handleBy (.ref a) X.env hds2) _ _ _
          exact ih h3 fl3 up3 (hno rfl)
      | @cons2 x x2 n c c2 i kk ts b₀ suite np np2 tp pos' hds2 l2 hc hc2 hi hln hsu r h9 ih =>
        intro h3 fl3 up3 w
        obtain ⟨b, hb1, hyes, hno⟩ := w
        have J3 : Inv X pins σ' H' { s' with heap := h3 } := J.landed nb fl3.1 (up.trans up3) os ag
        obtain ⟨oe3, vs3, he3, hz3, hd3⟩ := fl3.there
        have S3 := J3.suite he3 hd3 na nL nF
        refine wpAny_handleBy_cons (codeAny_handlers_test ?_) (by intro q; cases q)
        have LT : PySem.W.Looks (model X.prog X.w) h3 (typeOf (.ref a)) cls := fun A Q E s k q => wpAny_typeOf_ref (k _ _ he3) (by rw [hz3.1]; exact q)
        have test : ∀ {x : Str} {c : Value} {np : Pos} {Q : Value → Shared → Prop} {E : Value → Shared → Prop}, Names X x c → Q c { s' with heap := h3 } → wpAny (model X.prog X.w) (X.A.mark (some (.ref a))) (eval (.Name x np) X.env) Q E { s' with heap := h3 } := fun {x c np Q E} hc q => by
          obtain ⟨hg, hdbg, hm | ⟨hm, hv, hnn⟩⟩ := hc
          · exact ld_glob (X := X.suite a ((a, oe3) :: (X.pn ++ pins))) S3 hg hm q hdbg
          · exact ld_blt (X := X.suite a ((a, oe3) :: (X.pn ++ pins))) S3 hg hm hv q hnn hdbg
        refine wpAny_Tuple ?_
        refine wpAny_items_cons (test hc ?_)
        refine wpAny_items_cons (test hc2 ?_)
        refine wpAny_items_nil ⟨by size_fits, ?_⟩
        have kp : ∀ q o, h3.get? q = some o → (h3.push { cls := .type "tuple", data := .seq [c, c2].toArray }).get? q = some o := fun _ _ z => Heap.get?_push_of_some _ z
        have LM := PySem.W.exm_tup2 (M := model X.prog X.w) ((J3.kIn).keeps kp) (LT.keeps kp) (Heap.get?_push_size h3 rfl) hb1
        have fl5 := flyZ_keeps fl3 kp
        have up5 := up3.trans (Heap.UpToSlots.of_keeps kp)
        refine LM.here ?_
        cases b with
        | true =>
          have hy0 := hyes rfl
          rw [if_neg h9] at hy0
          obtain ⟨hdn, hy2⟩ := hy0
          refine codeAny_handlers_suite_as ?_
          exact wpAny_mono (suite_ hi hln hsu hdn hy2 _ fl5 up5 (E := fun _ _ => True)) (fun _ _ z => wpAny_mono z (fun _ _ z => wpAny_mono z (fun _ _ z => z) (fun _ _ z => z.elim)) (fun _ _ z => z.elim)) (fun _ _ z => z.elim)
        | false =>
          show wpAny _ X.A (handleBy (.ref a) X.env hds2) _ _ _
          exact ih _ fl5 up5 (hno rfl)
      | @cons3 x x2 x3 c c2 c3 kk ts b₀ suite np np2 np3 tp pos' hds2 l2 hc hc2 hc3 hsu r ih =>
        intro h3 fl3 up3 w
        obtain ⟨b, hb1, hyes, hno⟩ := w
        have J3 : Inv X pins σ' H' { s' with heap := h3 } := J.landed nb fl3.1 (up.trans up3) os ag
        obtain ⟨oe3, vs3, he3, hz3, hd3⟩ := fl3.there
        have S3 := J3.suite he3 hd3 na nL nF
        refine wpAny_handleBy_cons (codeAny_handlers_test ?_) (by intro q; cases q)
        have LT : PySem.W.Looks (model X.prog X.w) h3 (typeOf (.ref a)) cls := fun A Q E s k q => wpAny_typeOf_ref (k _ _ he3) (by rw [hz3.1]; exact q)
        have test : ∀ {x : Str} {c : Value} {np : Pos} {Q : Value → Shared → Prop} {E : Value → Shared → Prop}, Names X x c → Q c { s' with heap := h3 } → wpAny (model X.prog X.w) (X.A.mark (some (.ref a))) (eval (.Name x np) X.env) Q E { s' with heap := h3 } := fun {x c np Q E} hc q => by
          obtain ⟨hg, hdbg, hm | ⟨hm, hv, hnn⟩⟩ := hc
          · exact ld_glob (X := X.suite a ((a, oe3) :: (X.pn ++ pins))) S3 hg hm q hdbg
          · exact ld_blt (X := X.suite a ((a, oe3) :: (X.pn ++ pins))) S3 hg hm hv q hnn hdbg
        refine wpAny_Tuple ?_
        refine wpAny_items_cons (test hc ?_)
        refine wpAny_items_cons (test hc2 ?_)
        refine wpAny_items_cons (test hc3 ?_)
        refine wpAny_items_nil ⟨by size_fits, ?_⟩
        have kp : ∀ q o, h3.get? q = some o → (h3.push { cls := .type "tuple", data := .seq [c, c2, c3].toArray }).get? q = some o := fun _ _ z => Heap.get?_push_of_some _ z
        have LM := PySem.W.exm_tup3 (M := model X.prog X.w) ((J3.kIn).keeps kp) (LT.keeps kp) (Heap.get?_push_size h3 rfl) hb1
        have fl5 := flyZ_keeps fl3 kp
        have up5 := up3.trans (Heap.UpToSlots.of_keeps kp)
        refine LM.here ?_
        cases b with
        | true =>
          have hy0 := hyes rfl
          rw [if_pos rfl] at hy0
          refine codeAny_handlers_suite ?_
          refine HandSPX.lands_againZ fl5 fun h4 fl4 up4 => ?_
          have J4 : Inv X pins σ' H' { s' with heap := h4 } := J.landed nb fl4.1 ((up.trans up5).trans up4) os ag
          obtain ⟨oe4, vs4, he4, hz4, hd4⟩ := fl4.there
          have S4 := J4.suite he4 hd4 na nL nF
          refine wpAny_mono ((hsu a oe4 (X.pn ++ pins)).run [] _ _ H' _ S4 hy0) (fun f s6 hsp => ?_) (fun _ _ z => False.elim z)
          cases f with
          | next =>
            obtain ⟨σ6, H6, S6, q6⟩ := hsp
            exact ⟨_, _, S6.unsuite ok, q6⟩
          | brk =>
            obtain ⟨σ6, H6, S6, q6⟩ := hsp
            exact ⟨_, _, S6.unsuite ok, q6⟩
          | cont =>
            obtain ⟨σ6, H6, S6, q6⟩ := hsp
            exact ⟨_, _, S6.unsuite ok, q6⟩
          | ret u =>
            obtain ⟨v6, σ6, H6, S6, r6, q6⟩ := hsp
            exact ⟨_, _, _, S6.unsuite ok, r6, q6⟩
        | false =>
          show wpAny _ X.A (handleBy (.ref a) X.env hds2) _ _ _
          exact ih _ fl5 up5 (hno rfl)
    exact go hh h3 fl0 up3 w
  · cases f with
    | next =>
      obtain ⟨σ', H', J', q⟩ := hsp
      exact wpAny_execs_nil ⟨σ', H', J'.ofTry ok, q⟩
    | brk =>
      obtain ⟨σ', H', J', q⟩ := hsp
      exact ⟨σ', H', J'.ofTry ok, q⟩
    | cont =>
      obtain ⟨σ', H', J', q⟩ := hsp
      exact ⟨σ', H', J'.ofTry ok, q⟩
    | ret u =>
      obtain ⟨v, σ', H', J', r, q⟩ := hsp
      exact ⟨v, σ', H', J'.ofTry ok, r, q⟩
end
end AL
namespace AL
open PySem PySem.Spec PyProof.Rows L2
variable {B : Bs}
def goneA (i : Nat) (E : AEnds) : AEnds := ⟨fun s C => E.nx (s.set i none) C, E.rt, fun s C => E.bk (s.set i none) C, fun s C => E.ct (s.set i none) C⟩
/-- whether a class is below one of some, where each is known -/
def anyS (sub : Str → Str → Option Bool) (nm : Str) : List Str → Option Bool
  | [] => some false
  | c :: r => match sub nm c, anyS sub nm r with
    | some b, some d => some (b || d)
    | _, _ => none
def aHandA (sub : Str → Str → Option Bool) (Wout : AX') (E : AEnds) : List (List Str × Nat × AS') → AX'
  | [] => Wout
  | (c, i, h) :: r => fun s nm C => match anyS sub nm c with | some true => if i = 999 then h E s C else nm ≠ "NoSentence" ∧ ∀ a, C a = none → h (goneA i E) (s.set i (some (.ce a))) (put C a (.exc nm)) | some false => aHandA sub Wout E r s nm C | none => False
def aTryA (sub : Str → Str → Option Bool) (body : AX' → AS') (hds : List (List Str × Nat × AS')) (Wout : AX') : AS' := fun E s C => body (aHandA sub Wout E hds) E s C
theorem Slo.unset {K : PySem.W.Frag} {F : Hp} {s : ASt} {σ : L2.St} (r : Slo K F s σ) (i : Nat) : Slo K F (s.set i none) (σ.set i none) := by
  refine ⟨by rw [List.length_set, List.length_set, r.len], fun j e q => ?_⟩
  by_cases hj : i = j
  · subst hj
    by_cases hi : i < s.length
    · rw [List.getElem?_set_self hi] at q; cases q
    · rw [List.getElem?_eq_none (by rw [List.length_set]; omega)] at q; cases q
  · rw [List.getElem?_set_ne hj] at q
    obtain ⟨v, h1, h2⟩ := r.at' j e q
    exact ⟨v, by rw [List.getElem?_set_ne hj]; exact h1, h2⟩
theorem EndsR.gone {K : PySem.W.Frag} {F R : Hp} {E : AEnds} {D' : Ends} (hE : EndsR B K F R E D') (i : Nat) : EndsR B K F R (goneA i E) (goneE i D') :=
  ⟨fun s σ F' C' H' e hs S h => hE.nx _ _ F' C' H' e (hs.unset i) S h, hE.rt, fun s σ F' C' H' e hs S h => hE.bk _ _ F' C' H' e (hs.unset i) S h, fun s σ F' C' H' e hs S h => hE.ct _ _ F' C' H' e (hs.unset i) S h⟩
theorem anyS_cons {sub : Str → Str → Option Bool} {nm c : Str} {r : List Str} {b : Bool} (h : anyS sub nm (c :: r) = some b) : ∃ b1 d1, sub nm c = some b1 ∧ anyS sub nm r = some d1 ∧ b = (b1 || d1) := by
  unfold anyS at h
  split at h
  · rename_i b1 d1 h1 h2
    exact ⟨b1, d1, h1, h2, (Option.some.inj h).symm⟩
  · cases h
theorem exmAny_mk {K : PySem.W.Frag} {cls c : Value} {r : List Value} {b d e : Bool} (h1 : PySem.W.exmOne K cls c = some b) (h2 : PySem.W.exmAny K cls r = some d) (h3 : e = (b || d)) : PySem.W.exmAny K cls (c :: r) = some e := by
  unfold PySem.W.exmAny
  rw [h1, h2, h3]
inductive AHdsA (X : Cx) : List ExceptHandler → List (List Value × Nat × TS) → List (List Str × Nat × AS') → Prop
  | nil : AHdsA X [] [] []
  | cons {x n : Str} {c : Value} {i : Nat} {ts : TS} {ha : AS'} {b₀ : Stmt} {suite : List Stmt} {np pos' : Pos} {hds : List ExceptHandler} {l : List (List Value × Nat × TS)} {la : List (List Str × Nat × AS')} (hm : X.mg x = some c) (hg : Gl X x) (hdb : (x == ("__debug__" : Str)) = false)
      (hi : X.N[i]? = some n) (hln : X.env.kindOf n = some .local)
      (hsu : ∀ (B : Bs) (hw : B.g = ⟨X.w, X.mg⟩) (a : Addr) (pn : List (Addr × Obj)), ASs B (X.suite a pn) (b₀ :: suite) ts ha) (r : AHdsA X hds l la) (h9 : i ≠ 999 := by decide) :
      AHdsA X (.ExceptHandler (some (.Name x np)) (some n) (b₀ :: suite) pos' :: hds) (([c], i, ts) :: l) (([x], i, ha) :: la)
  | cons2 {x x2 n : Str} {c c2 : Value} {i kk : Nat} {ts : TS} {ha : AS'} {b₀ : Stmt} {suite : List Stmt} {np np2 tp pos' : Pos} {hds : List ExceptHandler} {l : List (List Value × Nat × TS)} {la : List (List Str × Nat × AS')} (hm : X.mg x = some c) (hg : Gl X x) (hdb : (x == ("__debug__" : Str)) = false)
      (hm2 : X.mg x2 = some c2) (hg2 : Gl X x2) (hdb2 : (x2 == ("__debug__" : Str)) = false) (hi : X.N[i]? = some n) (hln : X.env.kindOf n = some .local)
      (hsu : ∀ (B : Bs) (hw : B.g = ⟨X.w, X.mg⟩) (a : Addr) (pn : List (Addr × Obj)), ASs B (X.suite a pn) (b₀ :: suite) ts ha) (r : AHdsA X hds l la) (h9 : i ≠ 999 := by decide) :
      AHdsA X (.ExceptHandler (some (.Tuple [.Name x np, .Name x2 np2] kk tp)) (some n) (b₀ :: suite) pos' :: hds) (([c, c2], i, ts) :: l) (([x, x2], i, ha) :: la)
  | cons3 {x x2 x3 : Str} {c c2 c3 : Value} {kk : Nat} {ts : TS} {ha : AS'} {b₀ : Stmt} {suite : List Stmt} {np np2 np3 tp pos' : Pos} {hds : List ExceptHandler} {l : List (List Value × Nat × TS)} {la : List (List Str × Nat × AS')} (hm : X.mg x = some c) (hg : Gl X x) (hdb : (x == ("__debug__" : Str)) = false)
      (hm2 : X.mg x2 = some c2) (hg2 : Gl X x2) (hdb2 : (x2 == ("__debug__" : Str)) = false) (hm3 : X.mg x3 = some c3) (hg3 : Gl X x3) (hdb3 : (x3 == ("__debug__" : Str)) = false)
      (hsu : ∀ (B : Bs) (hw : B.g = ⟨X.w, X.mg⟩) (a : Addr) (oe : Obj) (pn : List (Addr × Obj)), ASs B (X.suite a ((a, oe) :: pn)) (b₀ :: suite) ts ha) (r : AHdsA X hds l la) :
      AHdsA X (.ExceptHandler (some (.Tuple [.Name x np, .Name x2 np2, .Name x3 np3] kk tp)) none (b₀ :: suite) pos' :: hds) (([c, c2, c3], 999, ts) :: l) (([x, x2, x3], 999, ha) :: la)
section
variable {X : Cx} {body : List Stmt} {h₀ : ExceptHandler} {hds : List ExceptHandler} {l : List (List Value × Nat × TS)} {la : List (List Str × Nat × AS')} {pos : Pos} {tb : WX → TS} {W : AX'} {Wk : WX} {ab : AX' → AS'} {sub : Str → Str → Option Bool}
theorem AHdsA.ok {hds : List ExceptHandler} (h : AHdsA X hds l la) : HdsA X hds l := by
  induction h with
  | nil => exact .nil
  | cons hm hg hdb hi hln hsu r h9 ih => exact .cons ⟨hg, hdb, .inl hm⟩ hi hln (fun a pn => (hsu (Bs.nil ⟨X.w, X.mg⟩) rfl a pn).ps) ih h9
  | cons2 hm hg hdb hm2 hg2 hdb2 hi hln hsu r h9 ih => exact .cons2 ⟨hg, hdb, .inl hm⟩ ⟨hg2, hdb2, .inl hm2⟩ hi hln (fun a pn => (hsu (Bs.nil ⟨X.w, X.mg⟩) rfl a pn).ps) ih h9
  | cons3 hm hg hdb hm2 hg2 hdb2 hm3 hg3 hdb3 hsu r ih => exact .cons3 ⟨hg, hdb, .inl hm⟩ ⟨hg2, hdb2, .inl hm2⟩ ⟨hg3, hdb3, .inl hm3⟩ (fun a oe pn => (hsu (Bs.nil ⟨X.w, X.mg⟩) rfl a oe pn).ps) ih
theorem hand_okA (hw : B.g = ⟨X.w, X.mg⟩) {F R : Hp} {E : AEnds} {D' : Ends} {hds : List ExceptHandler} (h : AHdsA X hds l la) (rel : WR B X.K X.mg W Wk) (sf : SubF X.K X.mg sub) (hbF : Ex B.F0 F) (hbR : Ex B.R0 R) (hE : EndsR B X.K F R E D') :
    WR ⟨F, R, B.g⟩ X.K X.mg (aHandA sub W E la) (wManyA X.K Wk D' l) := by
  induction h with
  | nil => exact fun nm cls d s σ F' C' H' hm hd hs S h => rel nm cls d s σ F' C' H' hm hd hs (S.rebase (B' := B) rfl (hbF.trans S.bF) hbR).at0 h
  | @cons x n c i ts ha b₀ suite np pos' hds l la hmx hg hdb hi hln hsu r h9 ih =>
    intro nm cls d s σ F' C' H' hm hd hs S h
    have ex : ∀ b, anyS sub nm [x] = some b → PySem.W.exmAny X.K cls [c] = some b := fun b e => by
      obtain ⟨b1, d1, e1, e2, e3⟩ := anyS_cons e
      cases e2
      exact exmAny_mk (d := false) (sf nm x b1 cls c e1 hm hmx) rfl e3
    unfold aHandA at h
    split at h
    · rename_i e
      rw [if_neg h9] at h
      obtain ⟨hns, h⟩ := h
      refine ⟨true, ex _ e, fun _ => ?_, fun q => nomatch q⟩
      rw [if_neg h9]
      refine ⟨hd.resolve_left hns, fun a na => ?_⟩
      have S1 : Sat B X.K F' C' R H' := S.rebase rfl (hbF.trans S.bF) hbR
      have hc : CellC B.g X.K F' a (.ext (ExcAt cls a)) (.exc nm) := .exc (by rw [hw]; exact hm)
      have S2 := S1.newC na hc
      exact (hsu B hw a []).sim (goneE i D') (goneA i E) _ _ F' _ R _ ((hE.gone i).mono S.bF) (hs.set (.ce a) i) S2 (h a (S1.freeC na))
    · rename_i e
      exact ⟨false, ex _ e, (fun q => by cases q), fun _ => ih nm cls d s σ F' C' H' hm hd hs S h⟩
    · exact h.elim
  | @cons2 x x2 n c c2 i kk ts ha b₀ suite np np2 tp pos' hds l la hmx hg hdb hmx2 hg2 hdb2 hi hln hsu r h9 ih =>
    intro nm cls d s σ F' C' H' hm hd hs S h
    have ex : ∀ b, anyS sub nm [x, x2] = some b → PySem.W.exmAny X.K cls [c, c2] = some b := fun b e => by
      obtain ⟨b1, d1, e1, e2, e3⟩ := anyS_cons e
      obtain ⟨b2, d2, f1, f2, f3⟩ := anyS_cons e2
      cases f2
      exact exmAny_mk (sf nm x b1 cls c e1 hm hmx) (exmAny_mk (d := false) (sf nm x2 b2 cls c2 f1 hm hmx2) rfl f3) e3
    unfold aHandA at h
    split at h
    · rename_i e
      rw [if_neg h9] at h
      obtain ⟨hns, h⟩ := h
      refine ⟨true, ex _ e, fun _ => ?_, fun q => nomatch q⟩
      rw [if_neg h9]
      refine ⟨hd.resolve_left hns, fun a na => ?_⟩
      have S1 : Sat B X.K F' C' R H' := S.rebase rfl (hbF.trans S.bF) hbR
      have hc : CellC B.g X.K F' a (.ext (ExcAt cls a)) (.exc nm) := .exc (by rw [hw]; exact hm)
      have S2 := S1.newC na hc
      exact (hsu B hw a []).sim (goneE i D') (goneA i E) _ _ F' _ R _ ((hE.gone i).mono S.bF) (hs.set (.ce a) i) S2 (h a (S1.freeC na))
    · rename_i e
      exact ⟨false, ex _ e, (fun q => by cases q), fun _ => ih nm cls d s σ F' C' H' hm hd hs S h⟩
    · exact h.elim
  | @cons3 x x2 x3 c c2 c3 kk ts ha b₀ suite np np2 np3 tp pos' hds l la hmx hg hdb hmx2 hg2 hdb2 hmx3 hg3 hdb3 hsu r ih =>
    intro nm cls d s σ F' C' H' hm hd hs S h
    have ex : ∀ b, anyS sub nm [x, x2, x3] = some b → PySem.W.exmAny X.K cls [c, c2, c3] = some b := fun b e => by
      obtain ⟨b1, d1, e1, e2, e3⟩ := anyS_cons e
      obtain ⟨b2, d2, f1, f2, f3⟩ := anyS_cons e2
      obtain ⟨b3, d3, g1, g2, g3⟩ := anyS_cons f2
      cases g2
      exact exmAny_mk (sf nm x b1 cls c e1 hm hmx) (exmAny_mk (sf nm x2 b2 cls c2 f1 hm hmx2) (exmAny_mk (d := false) (sf nm x3 b3 cls c3 g1 hm hmx3) rfl g3) f3) e3
    unfold aHandA at h
    split at h
    · rename_i e
      rw [if_pos rfl] at h
      refine ⟨true, ex _ e, fun _ => ?_, fun q => nomatch q⟩
      rw [if_pos rfl]
      exact (hsu B hw 0 { cls := cls, dict := none, data := .fields #[] } []).sim D' E σ s F' C' R H' (hE.mono S.bF) hs (S.rebase rfl (hbF.trans S.bF) hbR) h
    · rename_i e
      exact ⟨false, ex _ e, (fun q => by cases q), fun _ => ih nm cls d s σ F' C' H' hm hd hs S h⟩
    · exact h.elim
theorem as_tryA (hN : X.N.Nodup) (hs : X.stack = X.env :: X.outer) (hf : X.env.frame = some X.env.locals) (tk : Takes X Wk) (rel : WR B X.K X.mg W Wk) (sf : SubF X.K X.mg sub) (hw : B.g = ⟨X.w, X.mg⟩)
    (hb : ∀ (B' : Bs) (hw : B'.g = ⟨X.w, X.mg⟩) (W' : AX') (Wk' : WX) (pn : List (Addr × Obj)) (xe : Value → Shared → Prop), Takes (X.tr pn xe) Wk' → WR B' X.K X.mg W' Wk' → PassesOwn (model X.prog X.w) X.A X.env xe → ASs B' (X.tr pn xe) body (tb Wk') (ab W'))
    (hh : AHdsA X (h₀ :: hds) l la) : AS B X (.Try body (h₀ :: hds) [] [] pos) (fun D σ H => tb (wManyA X.K Wk D l) D σ H) (aTryA sub ab la W) := by
  refine ⟨ps_try_manyA hN hs hf tk (fun Wk' pn xe tk' hp => (hb (Bs.nil ⟨X.w, X.mg⟩) rfl (fun _ _ _ => False) Wk' pn xe tk' (fun _ _ _ _ _ _ _ _ _ _ _ _ h => h.elim) hp).ps) hh.ok, fun D' E σ s F C R H hE hs' hS h => ?_⟩
  exact (hb ⟨F, R, B.g⟩ hw (aHandA sub W E la) (wManyA X.K Wk D' l) [] _ (takes_any hs hf []) (hand_okA hw hh rel sf hS.bF hS.bR hE) PassesOwn.looking).sim D' E σ s F C R H (hE.ground hS.bF hS.bR) hs' (hS.rebase rfl (Ex.refl _) (Ex.refl _)) h
end
section
variable {C : AH} {W : AX'} {E : AEnds} {s : ASt}
theorem g_tryA {sub : Str → Str → Option Bool} {body : AX' → AS'} {hds : List (List Str × Nat × AS')} (h : body (aHandA sub W E hds) E s C) : aTryA sub body hds W E s C := h
theorem g_handAT {sub : Str → Str → Option Bool} {c : List Str} {nm : Str} {i : Nat} {ha : AS'} {r : List (List Str × Nat × AS')} (e : anyS sub nm c = some true) (h : ∀ a, C a = none → ha (goneA i E) (s.set i (some (.ce a))) (put C a (.exc nm))) (h9 : i ≠ 999 := by decide) (hn : nm ≠ "NoSentence" := by decide +kernel) : aHandA sub W E ((c, i, ha) :: r) s nm C := by
  unfold aHandA
  rw [e]
  show (if i = 999 then _ else _)
  rw [if_neg h9]
  exact ⟨hn, h⟩
end
end AL
namespace AL
open PySem PySem.Spec PyProof.Rows L2
variable {B : Bs}
/-- a class by its name: an own one, or the built-in ValueError -/
def clsN (mg : Str → Option Value) (c : Str) (u : Value) : Prop := (mg c = some u ∧ ∃ C, u = .ref C) ∨ (c = "ValueError" ∧ u = .type "ValueError")
/-- what is known of which class an exception is -/
def IsF (K : PySem.W.Frag) (mg : Str → Option Value) (isub : Str → Str → Option Bool) : Prop := ∀ nm c b cls u, isub nm c = some b → mg nm = some cls → clsN mg c u → ∃ D, cls = .ref D ∧ ExcC K D ∧ PySem.W.kitOne K cls u = some b
def isAny (isub : Str → Str → Option Bool) (nm : Str) : List Str → Option Bool
  | [] => some false
  | c :: r => match isub nm c with
    | some true => some true
    | some false => isAny isub nm r
    | none => none
def aIsX (isub : Str → Str → Option Bool) (cs : List Str) (a : AE') : AE' := fun s C P => a s C fun d C1 => match d with
  | .ce p => (match C1 p with | some (.exc nm) => (match isAny isub nm cs with | some b => P (.bl b) C1 | none => False) | _ => False)
  | _ => False
/-- a class's expression -/
structure AC (X : Cx) (e : Expr) (v : V) (u : Value) (x : Str) : Prop where
  pe : PE X e (tC v)
  cv : ClsV v u
  cn : clsN X.mg x u
theorem ac_own {X : Cx} {x : Str} {C : Addr} {p : Pos} (h : X.mg x = some (.ref C)) (hg : Gl X x := by rfl) (hdb : (x == ("__debug__" : Str)) = false := by decide) : AC X (.Name x p) (.ref C) (.ref C) x :=
  ⟨pe_glob hg h rfl hdb, .own C, .inl ⟨h, C, rfl⟩⟩
theorem ac_val {X : Cx} {p : Pos} (hm : X.mg "ValueError" = none) (hg : Gl X "ValueError" := by rfl) : AC X (.Name "ValueError" p) (.ty "ValueError") (.type "ValueError") "ValueError" :=
  ⟨pe_bltn hg hm (by decide +kernel) rfl (by decide) (by decide), .ty _, .inr ⟨rfl, rfl⟩⟩
inductive ACs (X : Cx) : List Expr → TA → List V → List Value → List Str → Prop
  | nil : ACs X [] tNil [] [] []
  | cons {e : Expr} {es : List Expr} {v : V} {u : Value} {x : Str} {t : TA} {vs : List V} {us : List Value} {xs : List Str} (h : AC X e v u x) (r : ACs X es t vs us xs) (he : starEach (e :: es) X.env = (false, eval e X.env) :: starEach es X.env) :
      ACs X (e :: es) (tCons (tC v) t) (v :: vs) (u :: us) (x :: xs)
section
variable {X : Cx} {es : List Expr} {t : TA} {vs : List V} {us : List Value} {xs : List Str}
theorem ACs.pa (h : ACs X es t vs us xs) : PA X es t := by
  induction h with
  | nil => exact pa_nil
  | cons h r he ih => exact pa_cons h.pe ih he
theorem ACs.run (h : ACs X es t vs us xs) : ∀ {σ : L2.St} {H : Hp} {Q : List V → Hp → Prop}, Q vs H → t σ H Q := by
  induction h with
  | nil => exact fun q => q
  | cons h r he ih => exact fun {σ H Q} q => ih (Q := fun ws H2 => Q (_ :: ws) H2) q
theorem ACs.cv (h : ACs X es t vs us xs) : Paired ClsV vs us := by
  induction h with
  | nil => exact .nil
  | cons h r he ih => exact .cons h.cv ih
theorem ACs.len (h : ACs X es t vs us xs) : vs.length = es.length := by
  induction h with
  | nil => rfl
  | cons h r he ih => rw [List.length_cons, List.length_cons, ih]
theorem ACs.any (h : ACs X es t vs us xs) {isub : Str → Str → Option Bool} (f : IsF X.K X.mg isub) {nm : Str} {cls : Value} {b : Bool} (hm : X.mg nm = some cls) : isAny isub nm xs = some b → PySem.W.kitAny X.K cls us = some b := by
  induction h with
  | nil => exact fun e => e
  | @cons e es v u x t vs us xs h r he ih =>
    intro e
    unfold isAny at e
    unfold PySem.W.kitAny
    split at e
    · rename_i q
      obtain ⟨D, _, _, k⟩ := f nm x true cls u q hm h.cn
      rw [k]
      exact e
    · rename_i q
      obtain ⟨D, _, _, k⟩ := f nm x false cls u q hm h.cn
      rw [k]
      exact ih e
    · cases e
end
/-- a tracked exception of the class D -/
def ExcT (K : PySem.W.Frag) (H : Hp) (x : V) (t : Value) : Prop := ∃ a D, x = .ref a ∧ H a = some (.ext (ExcAt (.ref D) a)) ∧ t = .ref D ∧ ExcC K D
def rIsX (K : PySem.W.Frag) : List V → Hp → VK → Prop := fun xs H Q => ∃ (x c : V) (t u : Value) (b : Bool), xs = [x, c] ∧ ClsV c u ∧ ExcT K H x t ∧ PySem.W.kitOne K t u = some b ∧ Q (.bl b) H
section
variable {X : Cx}
theorem kit_exc {pins : List (Addr × Obj)} {σ : L2.St} {H : Hp} {s : Shared} {x : V} {u t : Value} (I : Inv X pins σ H s) (rx : RelV x u) (ty : ExcT X.K H x t) : ∃ P : Heap → Prop, PySem.W.KitX X.K u t P ∧ P s.heap ∧ u ≠ .builtin "__main__.__loader__#opaque" := by
  obtain ⟨a, D, rfl, e, rfl, C⟩ := ty
  cases rx
  obtain ⟨⟨oe, vs, h1, h2, h3, h4⟩, _, _⟩ := (show ObjOk X.prog X.w H s.heap a (.ext (ExcAt (.ref D) a)) from I.hok a _ e)
  have J : PySem.W.InstAt s.heap a oe D none := by
    obtain ⟨oc, od, oda, osl⟩ := oe
    dsimp only at h2 h3 h4
    subst h2 h3 h4
    exact ⟨h1, rfl, rfl, trivial⟩
  exact ⟨_, PySem.W.handS_kitx_exc C.hg C.hk C.hs C.hd C.ha C.hn C.ht C.hm, J, fun z => nomatch z⟩
theorem call_isX : CallR X (.builtin "isinstance") (rIsX X.K) := by
  intro pins s σ H xs us Q I r h
  obtain ⟨x, c, t, u, b, rfl, k, ty, e, q⟩ := h
  obtain ⟨u1, u2, rfl, r1, r2⟩ := vals2 r
  have e2 := k.eq r2
  subst e2
  obtain ⟨P, Z, p, hx⟩ := kit_exc I r1 ty
  exact PySem.W.kia_one Z I.kIn p e hx fun tk => ⟨.bl b, H, I.tok tk, rfl, q⟩
variable {pos p p4 : Pos} {k4 : Nat} {K : PySem.W.Frag} {e c : Expr} {cs : List Expr} {te : TE} {a : AE'} {v : V} {u : Value} {x : Str} {t : TA} {vs : List V} {us : List Value} {xs : List Str} {isub : Str → Str → Option Bool}
theorem exc_at {F : Hp} {C : AH} {R H : Hp} {p : Addr} {nm : Str} {mg : Str → Option Value} (hS : Sat B K F C R H) (hmg : B.g.mg = mg) (q : C p = some (.exc nm)) : ∃ cls, mg nm = some cls ∧ H p = some (.ext (ExcAt cls p)) := by
  obtain ⟨_, o, h1, h2⟩ := hS.cell p _ q
  cases h2 with
  | exc h => exact ⟨_, by rw [← hmg]; exact h, h1⟩
theorem ae_isX (h : AE B X e te a) (hc : AC X c v u x) (hm : X.mg "isinstance" = none) (isf : IsF X.K X.mg isub) (hw : B.g = ⟨X.w, X.mg⟩ := by first | rfl | assumption) (hg : Gl X "isinstance" := by rfl)
    (he : starEach [e, c] X.env = (false, eval e X.env) :: starEach [c] X.env := by rfl) (hpl : (backTo pos (starEach [c] X.env)).any (·.1) = false := by rfl) (h2 : starEach [c] X.env = (false, eval c X.env) :: starEach [] X.env := by rfl) :
    AE B X (.Call (.Name "isinstance" p) [e, c] [] pos) (tCB (rIsX X.K) (tCons te (tCons (tC v) tNil))) (aIsX isub [x] a) := by
  refine ⟨pe_callB call_isX hg hm (by decide +kernel) (pa_cons h.pe (pa_cons hc.pe pa_nil h2) he) (by decide) (by decide) he hpl, ?_⟩
  intro σ s F C R H Q P hs hS h0 k
  refine h.sim σ s F C R H _ _ hs hS h0 fun d w F1 C1 H1 e1 S1 r1 h1 => ?_
  split at h1
  · rename_i q0
    cases r1
    split at h1
    · rename_i nm q
      split at h1
      · rename_i b q2
        obtain ⟨cls, g1, g2⟩ := exc_at S1 (by rw [hw]) q
        have g3 : ∃ b', isub nm x = some b' ∧ b' = b := by
          unfold isAny at q2
          split at q2
          · rename_i z; cases q2; exact ⟨_, z, rfl⟩
          · rename_i z; cases q2; exact ⟨_, z, rfl⟩
          · cases q2
        obtain ⟨b', g3, rfl⟩ := g3
        obtain ⟨D, rfl, g4, g5⟩ := isf nm x b' cls u g3 g1 hc.cn
        exact ⟨.ref q0, v, .ref D, u, b', rfl, hc.cv, ⟨q0, D, rfl, g2, rfl, g4⟩, g5, k _ _ F1 C1 H1 e1 S1 (.bl _) h1⟩
      · exact h1.elim
    · exact h1.elim
  · exact h1.elim
end
theorem isF_nil {K : PySem.W.Frag} {mg : Str → Option Value} : IsF K mg (subL []) := fun _ _ _ _ _ h => by cases h
theorem isF_cons {K : PySem.W.Frag} {mg : Str → Option Value} {a b : Str} {r : Bool} {l : List (Str × Str × Bool)} {D : Addr} {u : Value} (h1 : mg a = some (.ref D)) (h2 : mg b = some u) (hb : b ≠ "ValueError") (c : ExcC K D) (h : PySem.W.kitOne K (.ref D) u = some r) (t : IsF K mg (subL l)) : IsF K mg (subL ((a, b, r) :: l)) := by
  intro nm c' q cls cc e m1 m2
  unfold subL at e
  split at e
  · rename_i z
    obtain ⟨rfl, rfl⟩ := z
    rw [h1] at m1
    cases m1; cases e
    rcases m2 with ⟨m2, _⟩ | ⟨m2, _⟩
    · rw [h2] at m2; cases m2
      exact ⟨D, rfl, c, h⟩
    · exact absurd m2 hb
  · exact t nm c' q cls cc e m1 m2
theorem isF_val {K : PySem.W.Frag} {mg : Str → Option Value} {a : Str} {r : Bool} {l : List (Str × Str × Bool)} {D : Addr} (h1 : mg a = some (.ref D)) (h2 : mg "ValueError" = none) (c : ExcC K D) (h : PySem.W.kitOne K (.ref D) (.type "ValueError") = some r) (t : IsF K mg (subL l)) : IsF K mg (subL ((a, "ValueError", r) :: l)) := by
  intro nm c' q cls cc e m1 m2
  unfold subL at e
  split at e
  · rename_i z
    obtain ⟨rfl, rfl⟩ := z
    rw [h1] at m1
    cases m1; cases e
    rcases m2 with ⟨m2, _⟩ | ⟨_, rfl⟩
    · rw [h2] at m2; cases m2
    · exact ⟨D, rfl, c, h⟩
  · exact t nm c' q cls cc e m1 m2
theorem kit_ne {K : PySem.W.Frag} {S T : Addr} {r : Bool} (hn : decide (S = T) = false) (h2 : PySem.W.isClsIn K T = true) (h3 : PySem.W.typeIn K (.ref T) = some (.type "type")) (h4 : PySem.W.subIn K (.ref S) (.ref T) = some r) : PySem.W.kitOne K (.ref S) (.ref T) = some r := by
  have hne : S ≠ T := of_decide_eq_false hn
  have e2 : ((PySem.W.clsIn K T).isSome && PySem.W.typeIn K (.ref T) == some (.type "type")) = true := by
    have h2' : (PySem.W.clsIn K T).isSome = true := h2
    rw [h2', h3] <;> rfl
  unfold PySem.W.kitOne
  rw [if_neg (by intro z; exact hne (Value.ref.inj (beq_iff_eq.mp z)))]
  show (if ((PySem.W.clsIn K T).isSome && PySem.W.typeIn K (.ref T) == some (.type "type")) = true then PySem.W.subIn K (.ref S) (.ref T) else none) = some r
  rw [if_pos e2]
  exact h4
theorem kit_self {K : PySem.W.Frag} {S : Addr} : PySem.W.kitOne K (.ref S) (.ref S) = some true := by
  unfold PySem.W.kitOne
  rw [if_pos (beq_self_eq_true _)]
theorem kit_val {K : PySem.W.Frag} {S : Addr} {r : Bool} (h4 : PySem.W.subIn K (.ref S) (.type "ValueError") = some r) : PySem.W.kitOne K (.ref S) (.type "ValueError") = some r := by
  unfold PySem.W.kitOne
  rw [if_neg (by intro z; exact nomatch (beq_iff_eq.mp z))]
  show (if PySem.W.kitMeta "ValueError" = true then PySem.W.subIn K (.ref S) (.type "ValueError") else none) = some r
  rw [if_pos (by decide +kernel)]
  exact h4
section
variable {C : AH} {P : D → AH → Prop} {s : ASt} {e : AE'}
def kIsX (isub : Str → Str → Option Bool) (cs : List Str) (P : D → AH → Prop) : D → AH → Prop := fun d C1 => match d with
  | .ce p => (match C1 p with | some (.exc nm) => (match isAny isub nm cs with | some b => P (.bl b) C1 | none => False) | _ => False)
  | _ => False
theorem g_isX {isub : Str → Str → Option Bool} {cs : List Str} (h : e s C (kIsX isub cs P)) : aIsX isub cs e s C P := h
theorem g_kIsX {isub : Str → Str → Option Bool} {cs : List Str} {p : Addr} {nm : Str} {b : Bool} (h1 : C p = some (.exc nm)) (h2 : isAny isub nm cs = some b) (h : P (.bl b) C) : kIsX isub cs P (.ce p) C := by
  unfold kIsX
  simp only [h1, h2]
  exact h
end
end AL
namespace AL
open PySem PySem.Spec PyProof.Rows L2
variable {B : Bs}
def rCntB (K : PySem.W.Frag) : V → List V → Hp → VK → Prop := fun x xs H Q => ∃ (p : Addr) (ns : List Bool) (k : Bool), x = .ref p ∧ xs = [.bl k] ∧ SqL K H p (ns.map V.bl) ∧ Q (.int (ns.count k : Nat)) H
theorem isBoolOf_vals (k : Bool) : ∀ {ns : List Bool} {its : List Value}, Vals (ns.map V.bl) its → its.countP (isBoolOf k) = ns.count k ∧ ∀ y ∈ its, ∃ b, y = .bool b
  | [], _, .nil => ⟨rfl, fun _ h => by cases h⟩
  | b :: ns, _, .cons r t => by
    obtain ⟨h1, h2⟩ := isBoolOf_vals k t
    cases r
    refine ⟨?_, fun y hy => ?_⟩
    · rw [List.countP_cons, List.count_cons, h1]
      rfl
    · rcases List.mem_cons.mp hy with e | e
      · exact ⟨b, e⟩
      · exact h2 y e
theorem mt_lcountB {X : Cx} : MtR X "list.count" (rCntB X.K) := by
  intro pins s σ H x xs v us Q I rx rxs h
  obtain ⟨p, ns, k, rfl, rfl, hs, q⟩ := h
  cases rx
  obtain ⟨u, rfl, ru⟩ := rxs.one
  cases ru
  obtain ⟨its, rv, ⟨⟨cls, dd, data, sl⟩, n, ho, hc, hdn, hd⟩, hlen⟩ := I.list hs
  simp only at hc hd
  subst hc hd
  obtain ⟨ec, hb⟩ := isBoolOf_vals k rv
  refine call_meets PySem.F.slot_list_count ⟨_, ho, rfl⟩ PySem.F.entry_list_count (PySem.F.args_list_count_2 _ _)
    (SeqAt.list_countAt p its.toArray n dd sl (.bool k) (isBoolOf k)) ⟨ho, fun y hy => ?_, ?_⟩
  · obtain ⟨b, rfl⟩ := hb y (by simpa using hy)
    exact SeqAt.EqAt.bool_bool b k
  · refine ⟨.int (ns.count k : Nat), H, I.tok _, ⟨s.toks, ?_⟩, q⟩
    show Value.int ((its.toArray.toList.countP (isBoolOf k) : Nat) : Int) s.toks = Value.int ((ns.count k : Nat) : Int) s.toks
    rw [show its.toArray.toList = its from rfl, ec]
section
variable {X : Cx} {K : PySem.W.Frag}
def aCountB : D → ASp := fun x ds C P => match ds with
  | [.bl k] => ∃ (es : List D) (ns : List Bool), asLr C x = some es ∧ es = ns.map D.bl ∧ P (.int (ns.count k : Nat)) C
  | _ => False
theorem am_countB (hK : X.K = K := by rfl) : AMt B X "list.count" (rCntB K) aCountB := by
  subst hK
  exact ⟨mt_lcountB, by
  intro v d vs ds F C R H Q P hS r1 r2 h k
  unfold aCountB at h
  split at h
  · cases r2 with
    | cons r2 r3 =>
      cases r3
      cases r2
      obtain ⟨es, ns, h1, h2, h3⟩ := h
      subst h2
      obtain ⟨a, xs, rfl, g1, g2⟩ := asLr_ok hS r1 h1
      rw [g2.ofBls] at g1
      exact ⟨a, ns, _, rfl, rfl, g1, k _ _ F C H (Ex.refl F) hS (.int _) h3⟩
  · exact h.elim⟩
def aIndexB : D → ASp := fun x ds C P => match ds with
  | [.bl i] => ∃ (es : List D) (ks : List Bool), asLr C x = some es ∧ es = ks.map D.bl ∧ i ∈ ks ∧ P (.int (ks.idxOf i : Nat)) C
  | _ => False
theorem first_atB {i : Bool} : ∀ {ks : List Bool}, i ∈ ks → ks[ks.idxOf i]? = some i ∧ ∀ m, m < ks.idxOf i → ∀ k, ks[m]? = some k → k ≠ i
  | k :: ks, h => by
    by_cases e : k = i
    · subst e
      rw [List.idxOf_cons_self]
      exact ⟨rfl, fun m hm => absurd hm (Nat.not_lt_zero _)⟩
    · rcases List.mem_cons.mp h with h | h
      · exact absurd h.symm e
      · obtain ⟨h1, h2⟩ := first_atB h
        have e2 : (k :: ks).idxOf i = ks.idxOf i + 1 := by rw [List.idxOf_cons]; simp [beq_eq_false_iff_ne.mpr e]
        rw [e2]
        refine ⟨by simpa using h1, fun m hm k' hk => ?_⟩
        cases m with
        | zero => simp at hk; rw [← hk]; exact e
        | succ m => exact h2 m (by omega) k' (by simpa using hk)
theorem am_indexB (hK : X.K = K := by rfl) : AMt B X "list.index" (rIndex K) aIndexB := by
  subst hK
  exact ⟨mt_index, by
  intro v d vs ds F C R H Q P hS r1 r2 h k
  unfold aIndexB at h
  split at h
  · cases r2 with
    | cons r2 r3 =>
      cases r3
      cases r2
      rename_i i
      obtain ⟨es, ks, h1, h2, h3, h4⟩ := h
      subst h2
      obtain ⟨a, xs, rfl, g1, g2⟩ := asLr_ok hS r1 h1
      rw [g2.ofBls] at g1
      obtain ⟨j1, j2⟩ := first_atB h3
      refine ⟨a, _, .bl i, ks.idxOf i, .bl i, rfl, rfl, g1, rfl, List.all_eq_true.mpr fun x hx => by obtain ⟨n, _, rfl⟩ := List.mem_map.mp hx; rfl, by rw [List.getElem?_map, j1]; rfl, by show ((i : Bool) == i) = true; simp, fun m z' hm hz => ?_, k _ _ F C H (Ex.refl F) hS (.int _) h4⟩
      rw [List.getElem?_map] at hz
      cases e : ks[m]? with
      | none => rw [e] at hz; cases hz
      | some n =>
        rw [e] at hz
        cases hz
        have := j2 m hm n e
        show ((n : Bool) == i) = false
        simpa using this
  · exact h.elim⟩
end
section
variable {C : AH} {P : D → AH → Prop}
theorem g_countB {ns : List Bool} {k : Bool} (h : P (.int (ns.count k : Nat)) C) : aCountB (.lst (ns.map D.bl)) [.bl k] C P := ⟨_, ns, rfl, rfl, h⟩
theorem g_indexB {ns : List Bool} {k : Bool} (hk : k ∈ ns) (h : P (.int (ns.idxOf k : Nat)) C) : aIndexB (.lst (ns.map D.bl)) [.bl k] C P := ⟨_, ns, rfl, rfl, hk, h⟩
end
end AL
namespace AL
open PySem L2
end AL
namespace AL
open PySem L2
theorem valD_put (es : List (Key × D)) (k k' : Key) (d : D) : valD (putD es k d) k' = if k' = k then some d else valD es k' := by
  induction es with
  | nil =>
    unfold putD
    rw [if_neg (by simp)]
    by_cases e : k' = k
    · subst e; simp [valD]
    · rw [if_neg e]
      have : ¬ k = k' := fun z => e z.symm
      simp [valD, this]
  | cons x es ih =>
    unfold putD at ih ⊢
    by_cases hx : x.1 = k
    · rw [if_pos (by simp [hx])]
      rw [List.map_cons, if_pos hx]
      by_cases e : k' = k
      · subst e
        rw [if_pos rfl]
        simp [valD, hx]
      · rw [if_neg e]
        have hne : ¬ x.1 = k' := fun z => e (by rw [← z, hx])
        have ih2 : valD (es.map fun kv => if kv.1 = k then (kv.1, d) else kv) k' = valD es k' := by
          by_cases ha : (es.any fun kv => decide (kv.1 = k)) = true
          · rw [if_pos ha, if_neg e] at ih; exact ih
          · have : es.map (fun kv => if kv.1 = k then (kv.1, d) else kv) = es := by
              refine (List.map_congr_left fun kv hkv => ?_).trans (List.map_id es)
              have : ¬ kv.1 = k := fun z => ha (List.any_eq_true.mpr ⟨kv, hkv, decide_eq_true z⟩)
              rw [if_neg this]; rfl
            rw [this]
        simp only [valD, List.find?_cons, decide_eq_false hne] at ih2 ⊢
        exact ih2
    · by_cases ha : (es.any fun kv => decide (kv.1 = k)) = true
      · rw [if_pos ha] at ih
        rw [if_pos (by simp only [List.any_cons, ha, Bool.or_true])]
        rw [List.map_cons, if_neg hx]
        by_cases h2 : x.1 = k'
        · have e : ¬ k' = k := fun z => hx (h2.trans z)
          rw [if_neg e]
          simp [valD, h2]
        · simp only [valD, List.find?_cons, decide_eq_false h2] at ih ⊢
          exact ih
      · rw [if_neg ha] at ih
        rw [if_neg (by simp only [List.any_cons, decide_eq_false hx, Bool.false_or]; exact ha)]
        rw [List.cons_append]
        by_cases h2 : x.1 = k'
        · have e : ¬ k' = k := fun z => hx (h2.trans z)
          rw [if_neg e]
          simp [valD, h2]
        · simp only [valD, List.find?_cons, decide_eq_false h2] at ih ⊢
          exact ih
/-- a dict with numbers from 0 for keys, as what it holds -/
structure Mp (es : List (Key × D)) (L : List Nat) (f : Nat → Option D) : Prop where
  ky : Ky es L
  nd : L.Nodup
  at' : ∀ m, valD es (nk m) = f m
theorem Mp.nil : Mp [] [] fun _ => none := ⟨rfl, List.nodup_nil, fun _ => rfl⟩
theorem Mp.put {es : List (Key × D)} {L : List Nat} {f : Nat → Option D} (h : Mp es L f) (n : Nat) (d : D) : Mp (putD es (nk n) d) (addN L n) fun m => if m = n then some d else f m := by
  refine ⟨h.ky.put n, nodup_addN h.nd, fun m => ?_⟩
  rw [valD_put, h.at']
  by_cases e : m = n
  · subst e; rw [if_pos rfl, if_pos rfl]
  · rw [if_neg e, if_neg (fun z => e (nk_inj z))]
theorem Mp.mem {es : List (Key × D)} {L : List Nat} {f : Nat → Option D} (h : Mp es L f) (n : Nat) : n ∈ L ↔ (f n).isSome = true := by
  rw [← h.at', h.ky.val, decide_eq_true_iff]
section
variable {C : AH} {P : D → AH → Prop} {s : ASt} {q : Addr} {es : List (Key × D)} {o i e : AE'} {nx : ASt → AH → Prop} {rt : D → AH → Prop} {bk ct : ASt → AH → Prop}
def kGetK (x : D) (P : D → AH → Prop) : D → AH → Prop := fun y C2 => match asK C2 x, AL.keyOf y with
  | some es, some k => (match valD es k with | some d => P d C2 | none => False)
  | _, _ => False
theorem g_getK (h : o s C fun x C1 => i s C1 (kGetK x P)) : aGetK o i s C P := h
theorem g_kGetK {x y : D} {k : Key} {d : D} (h1 : asK C x = some es) (h2 : AL.keyOf y = some k) (h3 : valD es k = some d) (h : P d C) : kGetK x P y C := by
  unfold kGetK
  rw [h1, h2]
  show (match valD es k with | some d => P d C | none => False)
  rw [h3]
  exact h
def kGetN (x : D) (P : D → AH → Prop) : D → AH → Prop := fun y C2 => match lookD C2 x y with
  | some (some d) => P d C2
  | _ => False
theorem g_getN (h : o s C fun x C1 => i s C1 (kGetN x P)) : aGetN o i s C P := h
def kInN (neg : Bool) (y : D) (P : D → AH → Prop) : D → AH → Prop := fun x C2 => match lookD C2 x y with
  | some r => P (.bl (if neg then !r.isSome else r.isSome)) C2
  | none => False
theorem g_inN {neg : Bool} (h : i s C fun y C1 => o s C1 (kInN neg y P)) : aInN neg i o s C P := h
def kGet1N (i : AE') (s : ASt) (P : D → AH → Prop) : D → AH → Prop := fun x C1 => isDic C1 x = true ∧ i s C1 fun y C2 => match lookD C2 x y with
  | some r => P (r.getD .non) C2
  | none => False
theorem g_get1N (h : o s C (kGet1N i s P)) : aGet1N o i s C P := h
def kPutN (d x : D) (nx : ASt → AH → Prop) (s : ASt) : D → AH → Prop := fun y C3 => match x with
  | .ce p => (match C3 p with
    | some (.dk es) => (match AL.keyOf y with | some k => es.length < sizeLine ∧ nx s (put C3 p (.dk (putD es k d))) | none => False)
    | some (.dn es) => (match keyT y with | some k => es.length < sizeLine ∧ nx s (put C3 p (.dn (putND es k d))) | none => False)
    | some (.dw none es) => (match keyT y with | some _ => es.length < sizeLine ∧ nx s (put C3 p (.dw none (putW es y d))) | none => False)
    | _ => False)
  | _ => False
theorem g_putN (h : e s C fun d C1 => o s C1 fun x C2 => i s C2 (kPutN d x nx s)) : aPutN o i e ⟨nx, rt, bk, ct⟩ s C := h
end
end AL
namespace AL
open PySem L2
/-- a dict from numbers to numbers -/
abbrev Mn (es : List (Key × D)) (L : List Nat) (f : Nat → Option Nat) : Prop := Mp es L fun m => (f m).map fun (v : Nat) => D.int (v : Int)
theorem Mn.put {es : List (Key × D)} {L : List Nat} {f : Nat → Option Nat} (h : Mn es L f) (n v : Nat) : Mn (putD es (nk n) (.int (v : Int))) (addN L n) fun m => if m = n then some v else f m := by
  have := Mp.put h n (.int (v : Int))
  refine ⟨this.ky, this.nd, fun m => ?_⟩
  rw [this.at' m]
  by_cases e : m = n
  · simp [e]
  · simp [e]
section
variable {C : AH} {W : AX'} {nx : ASt → AH → Prop} {rt : D → AH → Prop} {bk ct : ASt → AH → Prop} {s : ASt}
theorem g_handA {sub : Str → Str → Option Bool} {c : List Str} {nm : Str} {i : Nat} {ha : AS'} {r : List (List Str × Nat × AS')} (e : anyS sub nm c = some true) (h : ∀ a, C a = none → ha ⟨fun s C => nx (s.set i none) C, rt, fun s C => bk (s.set i none) C, fun s C => ct (s.set i none) C⟩ (s.set i (some (.ce a))) (put C a (.exc nm))) (h9 : i ≠ 999 := by decide) (hn : nm ≠ "NoSentence" := by decide +kernel) : aHandA sub W ⟨nx, rt, bk, ct⟩ ((c, i, ha) :: r) s nm C := g_handAT e h h9 hn
end
end AL
namespace AL
open PySem PySem.Spec PyProof.Rows L2
end AL
namespace AL
open PySem PySem.Spec PyProof.Rows L2
end AL
namespace AL
open PySem PySem.Spec PyProof.Rows L2
end AL
namespace AL
open PySem PySem.Spec PyProof.Rows L2
end AL
namespace AL
open PySem PySem.Spec PyProof.Rows L2
end AL
namespace AL
open PySem PySem.Spec PyProof.Rows L2
end AL
namespace AL
open PySem PySem.Spec PyProof.Rows L2
end AL
namespace AL
open PySem PySem.Spec PyProof.Rows L2
open PyProof.Rows (envOfC)
variable {B : Bs}
def putFD (f : Str) (v : D) : List (Str × D) → List (Str × D)
  | [] => [(f, v)]
  | (g, x) :: r => if g = f then (g, v) :: r else (g, x) :: putFD f v r
theorem RepF.put {K : PySem.W.Frag} {F : Hp} {f : Str} {v : V} {d : D} (q : Rep K F v d) : ∀ {fs : List (Str × V)} {es : List (Str × D)}, RepF K F fs es → RepF K F (putF f v fs) (putFD f d es)
  | _, _, .nil => .cons q .nil
  | _, _, .cons (k := k) r t => by
    unfold putF putFD
    by_cases h : k = f
    · rw [if_pos h, if_pos h]; exact .cons q t
    · rw [if_neg h, if_neg h]; exact .cons r (RepF.put q t)
theorem RepF.length {K : PySem.W.Frag} {F : Hp} : ∀ {fs : List (Str × V)} {es : List (Str × D)}, RepF K F fs es → fs.length = es.length
  | _, _, .nil => rfl
  | _, _, .cons _ t => by rw [List.length_cons, List.length_cons, RepF.length t]
/-- o.f -/
def aFld (nm f : Str) (a : AE') : AE' := fun s C P => a s C fun x C1 => match x with
  | .ce p => (match C1 p with | some (.ob n es) => n = nm ∧ (match es.lookup f with | some d => P d C1 | none => False) | _ => False)
  | _ => False
/-- o.f = e -/
def aFldPut (nm f : Str) (o v : AE') : AS' := fun E s C => v s C fun y C1 => o s C1 fun x C2 => match x with
  | .ce p => (match C2 p with | some (.ob n es) => n = nm ∧ es.length < 1000 ∧ E.nx s (put C2 p (.ob nm (putFD f y es))) | _ => False)
  | _ => False
/-- o.m(..) -/
def aMth (nm m : Str) (asp : ASp) (o : AE') (a : AA') : AE' := fun s C P => o s C fun x C1 => match x with
  | .ce p => (match C1 p with | some (.ob n es) => n = nm ∧ es.lookup m = none ∧ a s C1 fun ds C2 => asp (.ce p :: ds) C2 P | _ => False)
  | _ => False
def aMthX (W : AX') (nm m : Str) (asp : ASpX) (o : AE') (a : AA') : AE' := fun s C P => o s C fun x C1 => match x with
  | .ce p => (match C1 p with | some (.ob n es) => n = nm ∧ es.lookup m = none ∧ a s C1 fun ds C2 => asp (.ce p :: ds) C2 P (W s) | _ => False)
  | _ => False
/-- C(..) -/
def aMake (nm : Str) (asp : ASp) (a : AA') : AE' := fun s C P => a s C fun ds C1 => ∀ p, C1 p = none → asp (.ce p :: ds) (put C1 p (.ob nm [])) fun v C2 => v = .non ∧ P (.ce p) C2
def aSetd (o i e : AE') : AE' := fun s C P => o s C fun x C1 => (asK C1 x).isSome = true ∧ i s C1 fun y C2 => e s C2 fun z C3 => match x, keyOf y with
  | .ce p, some k => (match C3 p with | some (.dk es) => es.length < sizeLine ∧ (match valD es k with | some d => P d C3 | none => P z (put C3 p (.dk (putD es k z)))) | _ => False)
  | _, _ => False
end AL
namespace AL
open PySem L2
section
variable {C : AH} {P : D → AH → Prop} {s : ASt} {q : Addr} {es : List (Str × D)} {o v a i e : AE'} {as : AA'} {asp : ASp} {nm f m : Str} {nx : ASt → AH → Prop} {rt : D → AH → Prop} {bk ct : ASt → AH → Prop}
def kFld (nm f : Str) (P : D → AH → Prop) : D → AH → Prop := fun x C1 => match x with
  | .ce p => (match C1 p with | some (.ob n es) => n = nm ∧ (match es.lookup f with | some d => P d C1 | none => False) | _ => False)
  | _ => False
theorem g_fld (h : a s C (kFld nm f P)) : aFld nm f a s C P := h
def kFldPut (nm f : Str) (y : D) (nx : ASt → AH → Prop) (s : ASt) : D → AH → Prop := fun x C2 => match x with
  | .ce p => (match C2 p with | some (.ob n es) => n = nm ∧ es.length < 1000 ∧ nx s (put C2 p (.ob nm (putFD f y es))) | _ => False)
  | _ => False
theorem g_fldPut (h : v s C fun y C1 => o s C1 (kFldPut nm f y nx s)) : aFldPut nm f o v ⟨nx, rt, bk, ct⟩ s C := h
def kMth (nm m : Str) (asp : ASp) (as : AA') (s : ASt) (P : D → AH → Prop) : D → AH → Prop := fun x C1 => match x with
  | .ce p => (match C1 p with | some (.ob n es) => n = nm ∧ es.lookup m = none ∧ as s C1 fun ds C2 => asp (.ce p :: ds) C2 P | _ => False)
  | _ => False
theorem g_mth (h : o s C (kMth nm m asp as s P)) : aMth nm m asp o as s C P := h
def kMthX (W : AX') (nm m : Str) (asp : ASpX) (as : AA') (s : ASt) (P : D → AH → Prop) : D → AH → Prop := fun x C1 => match x with
  | .ce p => (match C1 p with | some (.ob n es) => n = nm ∧ es.lookup m = none ∧ as s C1 fun ds C2 => asp (.ce p :: ds) C2 P (W s) | _ => False)
  | _ => False
theorem g_mthX {W : AX'} {asp : ASpX} (h : o s C (kMthX W nm m asp as s P)) : aMthX W nm m asp o as s C P := h
theorem g_make (h : as s C fun ds C1 => ∀ p, C1 p = none → asp (.ce p :: ds) (put C1 p (.ob nm [])) fun v C2 => v = .non ∧ P (.ce p) C2) : aMake nm asp as s C P := h
def kSetd2 (x y : D) (P : D → AH → Prop) : D → AH → Prop := fun z C3 => match x, AL.keyOf y with
  | .ce p, some k => (match C3 p with | some (.dk es) => es.length < sizeLine ∧ (match valD es k with | some d => P d C3 | none => P z (put C3 p (.dk (putD es k z)))) | _ => False)
  | _, _ => False
def kSetd (i e : AE') (s : ASt) (P : D → AH → Prop) : D → AH → Prop := fun x C1 => (asK C1 x).isSome = true ∧ i s C1 fun y C2 => e s C2 (kSetd2 x y P)
theorem g_setd (h : o s C (kSetd i e s P)) : aSetd o i e s C P := h
end
end AL
namespace AL
open PySem PySem.Spec PyProof.Rows L2
variable {B : Bs}
section
variable {X : Cx} {K : PySem.W.Frag}
def aSfind : D → ASp := fun x ds C P => match x, ds with
  | .str a, [.str b] => P (.int (Txt.find a b)) C
  | _, _ => False
theorem am_sfind : AMt B X "str.find" (fun x xs H Q => ∃ a b, x = .str a ∧ xs = [.str b] ∧ Q (.int (Txt.find a b)) H) aSfind := ⟨fun pins s σ H x xs v us Q I r1 r2 h => mt_find pins s σ H x xs v us Q I r1 r2 h, by
  intro v d vs ds F C R H Q P hS r1 r2 h k
  unfold aSfind at h
  split at h
  · cases r1
    cases r2 with
    | cons r2 r3 =>
      cases r3
      cases r2
      exact ⟨_, _, rfl, rfl, k _ _ F C H (Ex.refl F) hS (.int _) h⟩
  · exact h.elim⟩
end
theorem g_sfind {C : AH} {P : D → AH → Prop} {a b : Str} (h : P (.int (Txt.find a b)) C) : aSfind (.str a) [.str b] C P := h
end AL
namespace AL
open PySem PySem.Spec PyProof.Rows L2
variable {B : Bs}
def aChain3 (r r' r'' : D → D → AH → (D → AH → Prop) → Prop) (a b c d : AE') : AE' := fun s C P => a s C fun x C1 => b s C1 fun y C2 => r x y C2 fun z C3 => match z with
  | .bl true => c s C3 fun w C4 => r' y w C4 fun z2 C5 => (match z2 with
    | .bl true => d s C5 fun v C6 => r'' w v C6 P
    | .bl false => P (.bl false) C5
    | _ => False)
  | .bl false => P (.bl false) C3
  | _ => False
section
variable {C : AH} {P : D → AH → Prop} {s : ASt} {a b c d : AE'} {r r' r'' : D → D → AH → (D → AH → Prop) → Prop}
def kChain3 (r' r'' : D → D → AH → (D → AH → Prop) → Prop) (c d : AE') (y : D) (s : ASt) (P : D → AH → Prop) : D → AH → Prop := fun z C3 => match z with
  | .bl true => c s C3 fun w C4 => r' y w C4 (kChain r'' d w s P)
  | .bl false => P (.bl false) C3
  | _ => False
theorem g_chain3 (h : a s C fun x C1 => b s C1 fun y C2 => r x y C2 (kChain3 r' r'' c d y s P)) : aChain3 r r' r'' a b c d s C P := h
end
end AL
namespace AL
open PySem PySem.Spec PyProof.Rows L2
open PyProof.Rows (envOfC)
end AL
namespace AL
open PySem PySem.Spec PyProof.Rows L2
variable {B : Bs}
section
variable {X : Cx}
def rSortT : List V → Hp → VK → Prop := fun xs H Q => ∃ z : Str, xs = [.str z] ∧ z.cps.size ≤ sizeLine ∧ ∀ (ys : List Str) (p : Addr), ys.Perm (chars z) → sortedS ys = true → H p = none → Q (.ref p) (upd H p (.lst (ys.map V.str)))
theorem call_sortT (hcalm : X.calm = true) : CallR X (.builtin "sorted") rSortT := by
  intro pins s σ H xs us Q I r q
  obtain ⟨z, ex, hz, q⟩ := q
  subst ex
  obtain ⟨u, eu, rx⟩ := vals1 r
  subst eu
  obtain ⟨t, rfl⟩ := rx
  have hl : (chars z).length = z.cps.size := by unfold chars; rw [List.length_map, Array.length_toList]
  refine Calls.call_function_entry PyProof.Rows.kind_sorted PyProof.Rows.plain_sorted PyProof.Rows.entry_sorted (PyProof.Rows.args_sorted1 _) ?_
  unfold Builtin.«sorted»
  refine wpAny_bind (m := checkCount "sorted" 1 1 _) (wpAny_pure ?_)
  refine wpAny_bind (PySem.wpAny_collect_str (A := X.A.in1) (I.ok.hd hcalm) z t (hn := hz) fun s' acc hk e1 e2 e3 hacc => ?_)
  obtain ⟨h', g', d', tk, os'⟩ := s'
  obtain rfl : g' = s.gens := e1
  obtain rfl : d' = s.drawn := e2
  obtain rfl : os' = s.os := e3
  have hal : acc.toList.length = (chars z).length := by rw [Array.length_toList, hacc.1, hl]
  have hS : StrsAre acc.toList (chars z) := strs_at hal fun j v e => by
    obtain ⟨c, u, g1, g2⟩ := hacc.2 j v (by rw [← Array.getElem?_toList]; exact e)
    refine ⟨⟨#[c]⟩, u, ?_, g2⟩
    unfold chars
    rw [List.getElem?_map, Array.getElem?_toList, g1]
    rfl
  have I1 : Inv X pins σ H ⟨h', s.gens, s.drawn, tk, s.os⟩ := I.kept hk
  have hsz : acc.toList.length ≤ sizeLine := by rw [hal, hl]; exact hz
  refine wpAny_bind (wpAny_newList ?_ hsz)
  have hoL : (h'.push (seqObj "list" acc.toList.toArray 0)).get? h'.objs.size = some (seqObj "list" acc.toList.toArray 0) := Heap.get?_push_size _ rfl
  show wpAny _ _ _ _ _ ⟨h'.push (seqObj "list" acc.toList.toArray 0), s.gens, s.drawn, tk, s.os⟩
  refine wpAny_bind (wpAny_holding (wpAny_call_entry PyProof.Rows.slot_list_sort ⟨_, hoL, rfl⟩ PyProof.Rows.entry_list_sort
    (PyProof.Rows.list_sort_treeKAny strKind_oneLt (s := ⟨h'.push (seqObj "list" acc.toList.toArray 0), s.gens, s.drawn, tk, s.os⟩) hoL hS.keysOf (fun v₁ v₂ rest e => keyKind_strs (by rw [← e]; exact hS)) hsz fun st' hp hs => ⟨_, rfl, ?_⟩) (PyProof.Rows.args_list_sort _)))
  obtain ⟨ys, g1, g2, g3⟩ := sorted_out_str hS hp hs
  obtain ⟨e', he'⟩ := PyProof.Rows.sortedHeap_at (vs := acc.toList) (out := (arrOf st').map (·.2)) hoL
  have hlen : (ys.map V.str).length ≤ sizeLine := by
    rw [List.length_map, g2.length_eq, hl]
    exact hz
  refine wpAny_pure ⟨_, rfl, .ref h'.objs.size, upd H h'.objs.size (.lst (ys.map V.str)), I1.laid (t' := tk) (fun b u e => ?_) (Nat.le_refl _)
    (show ObjOk X.prog X.w _ _ _ (.lst (ys.map V.str)) from ⟨hlen, ((arrOf st').map (·.2)).toList, e', vals_of_strs g1, by rw [Array.toArray_toList]; exact he'⟩), rfl, q ys _ g2 g3 (I1.hok.fresh (Nat.le_refl _))⟩
  have hb : b < h'.objs.size := Heap.lt_size e
  rw [PyProof.Rows.sortedHeap_old (Nat.ne_of_lt hb) (by rw [size_push']; exact Nat.lt_succ_of_lt hb)]
  exact Heap.get?_push_of_some _ e
def aSortT (m : Bool) : ASp := fun ds C P => match ds with
  | [.str z] => z.cps.size ≤ sizeLine ∧ ∀ ys : List Str, ys.Perm (chars z) → sortedS ys = true → if m then ∀ p, C p = none → P (.ce p) (put C p (.lst (ys.map D.str))) else P (.lst (ys.map D.str)) C
  | _ => False
theorem ac_sortT {m : Bool} (hc : X.calm = true := by rfl) : ACa B X (.builtin "sorted") rSortT (aSortT m) := ⟨call_sortT hc, by
  intro vs ds F C R H Q P hS r h k
  unfold aSortT at h
  split at h
  · cases r with
    | cons r1 r2 =>
      cases r2
      cases r1
      obtain ⟨hz, h3⟩ := h
      refine ⟨_, rfl, hz, fun ys p e1 e2 hp => ?_⟩
      have h4 := h3 ys e1 e2
      cases m with
      | true => exact k _ _ _ _ _ (Ex.refl _) (hS.newC hp (.lst (.strs ys))) (.ce p) (h4 p (hS.freeC hp))
      | false =>
        have e := Ex.new (o := .lst (ys.map V.str)) (hS.freeF hp)
        exact k _ _ _ C _ e (hS.newF hp _) (.lst upd_same (.strs ys)) h4
  · exact h.elim⟩
end
end AL
namespace AL
open PySem PySem.Spec PyProof.Rows L2
variable {B : Bs}
def isTupM : D → Bool
  | .tup ds => !wkP ds
  | _ => false
def aMethT (m : D → ASp) (o : AE') (a : AA') : AE' := fun s C P => o s C fun x C1 => isTupM x = true ∧ a s C1 fun ds C2 => m x ds C2 P
section
variable {C : AH} {P : D → AH → Prop} {s : ASt} {e : AE'} {aa : AA'}
theorem g_methT {m : D → ASp} (h : e s C fun x C1 => isTupM x = true ∧ aa s C1 fun ds C2 => m x ds C2 P) : aMethT m e aa s C P := h
theorem isTupM_map (ys : List Str) : isTupM (.tup (ys.map D.str)) = true := by
  cases ys with
  | nil => rfl
  | cons y l => rfl
theorem g_tyT {ys : List Str} {A : Prop} (h : A) : isTupM (.tup (ys.map D.str)) = true ∧ A := ⟨isTupM_map ys, h⟩
end
end AL
namespace AL
open PySem PySem.Spec PyProof.Rows L2
end AL
namespace AL
open PySem PySem.Spec PyProof.Rows L2
variable {B : Bs}
def downD (hi : Int) (n : Nat) : List D := (List.range n).map fun (i : Nat) => D.int (hi - i)
def aIR3 (a : AA') : AI' := fun s C P => a s C fun ds C1 => match ds with | [.int i, .int j, .int c] => (c = -1 ∧ -(2 ^ 62) ≤ i ∧ i < 2 ^ 62 ∧ -(2 ^ 62) ≤ j ∧ j < 2 ^ 62) ∧ P (downD i (i - j).toNat) (fun _ => True) C1 | _ => False
section
variable {s : ASt} {C : AH} {PI : List D → (AH → Prop) → AH → Prop} {aa : AA'}
def kIR3 (PI : List D → (AH → Prop) → AH → Prop) : List D → AH → Prop := fun ds C1 => match ds with | [.int i, .int j, .int c] => (c = -1 ∧ -(2 ^ 62) ≤ i ∧ i < 2 ^ 62 ∧ -(2 ^ 62) ≤ j ∧ j < 2 ^ 62) ∧ PI (downD i (i - j).toNat) (fun _ => True) C1 | _ => False
theorem g_ir3 (h : aa s C (kIR3 PI)) : aIR3 aa s C PI := h
theorem g_kIR3 {i j : Int} (h1 : -(2 ^ 62) ≤ i ∧ i < 2 ^ 62 ∧ -(2 ^ 62) ≤ j ∧ j < 2 ^ 62) (h : PI (downD i (i - j).toNat) (fun _ => True) C) : kIR3 PI [.int i, .int j, .int (-1)] C := ⟨⟨rfl, h1⟩, h⟩
end
end AL
namespace AL
open PySem PySem.Spec PyProof.Rows L2
open PyProof.Rows (envOfC)
variable {B : Bs}
/-- raise X(e), X a class whose __init__ stores e -/
def aRaiseI (W : AX') (nm : Str) (a : AA') : AS' := fun _ s C => a s C fun ds C1 => ds.length = 1 ∧ W s nm C1
section
variable {W : AX'} {s : ASt} {C : AH} {nm : Str} {a : AA'} {E : AEnds}
def kRI (W : AX') (nm : Str) (s : ASt) : List D → AH → Prop := fun ds C1 => ds.length = 1 ∧ W s nm C1
theorem g_raiseI (h : a s C (kRI W nm s)) : aRaiseI W nm a E s C := h
theorem g_kRI {d : D} (h : W s nm C) : kRI W nm s [d] C := ⟨rfl, h⟩
end
end AL
namespace AL
open PySem PySem.Spec PyProof.Rows L2
variable {B : Bs}
theorem RepW.get {K : PySem.W.Frag} {F : Hp} : ∀ {xs : List (NestedKey × Addr × V)} {es : List (D × D)} {i : Nat} {x : NestedKey × Addr × V}, RepW K F xs es → xs[i]? = some x → ∃ e, es[i]? = some e ∧ Rep K F (.ref x.2.1) e.1 ∧ Rep K F x.2.2 e.2
  | _, _, _, _, .nil, e => by simp at e
  | _, _, 0, _, .cons a _ r _, e => by simp at e; subst e; exact ⟨_, rfl, a, r⟩
  | _, _, i + 1, x, .cons _ _ _ t, e => by
    obtain ⟨u, h1, h2⟩ := RepW.get (i := i) (x := x) t (by simpa using e)
    exact ⟨u, by simpa using h1, h2⟩
theorem RepW.len {K : PySem.W.Frag} {F : Hp} : ∀ {xs : List (NestedKey × Addr × V)} {es : List (D × D)}, RepW K F xs es → xs.length = es.length
  | _, _, .nil => rfl
  | _, _, .cons _ _ _ t => by rw [List.length_cons, List.length_cons, RepW.len t]
/-- for k in d, the keys told -/
def aIKW (a : AE') : AI' := fun s C P => a s C fun x C1 => match x with
  | .ce p => (match C1 p with
    | some (.dw none es) => ∀ l, P (es.map (·.1)) (fun C' => C' p = some (.dw (some l) es)) (put C1 p (.dw (some l) es))
    | some (.dw (some l) es) => P (es.map (·.1)) (fun C' => C' p = some (.dw (some l) es)) C1
    | _ => False)
  | _ => False
/-- for k, v in d.items(), the keys told -/
def aIIW (a : AE') : AI' := fun s C P => a s C fun x C1 => match x with
  | .ce p => (match C1 p with
    | some (.dw none es) => ∀ l, P (es.map fun e => .tup [e.1, e.2]) (fun C' => C' p = some (.dw (some l) es)) (put C1 p (.dw (some l) es))
    | some (.dw (some l) es) => P (es.map fun e => .tup [e.1, e.2]) (fun C' => C' p = some (.dw (some l) es)) C1
    | _ => False)
  | _ => False
def aDict0W : AE' := fun _ C P => ∀ p, C p = none → P (.ce p) (put C p (.dw none []))
def aDispW (ak av : AE') : AE' := fun s C P => ak s C fun dk C1 => av s C1 fun dv C2 => match keyT dk with
  | some _ => ∀ p, C2 p = none → P (.ce p) (put C2 p (.dw none [(dk, dv)]))
  | none => False
section
variable {C : AH} {P : D → AH → Prop} {p q : Addr}
theorem g_dict0W {s : ASt} (h : ∀ p, C p = none → P (.ce p) (put C p (.dw none []))) : aDict0W s C P := h
def kDispW (P : D → AH → Prop) (dk : D) : D → AH → Prop := fun dv C2 => match keyT dk with
  | some _ => ∀ p, C2 p = none → P (.ce p) (put C2 p (.dw none [(dk, dv)]))
  | none => False
theorem g_dispW {s : ASt} {ak av : AE'} (h : ak s C fun dk C1 => av s C1 (kDispW P dk)) : aDispW ak av s C P := h
end
end AL
namespace AL
open PySem PySem.Spec PyProof.Rows L2
variable {B : Bs}
section
variable {C : AH} {s : ASt} {e : AE'} {PI : List D → (AH → Prop) → AH → Prop} {p : Addr} {es : List (D × D)}
def kIKW (PI : List D → (AH → Prop) → AH → Prop) : D → AH → Prop := fun x C1 => match x with
  | .ce p => (match C1 p with
    | some (.dw none es) => ∀ l, PI (es.map (·.1)) (fun C' => C' p = some (.dw (some l) es)) (put C1 p (.dw (some l) es))
    | some (.dw (some l) es) => PI (es.map (·.1)) (fun C' => C' p = some (.dw (some l) es)) C1
    | _ => False)
  | _ => False
theorem g_ikw (h : e s C (kIKW PI)) : aIKW e s C PI := h
def kIIW (PI : List D → (AH → Prop) → AH → Prop) : D → AH → Prop := fun x C1 => match x with
  | .ce p => (match C1 p with
    | some (.dw none es) => ∀ l, PI (es.map fun e => .tup [e.1, e.2]) (fun C' => C' p = some (.dw (some l) es)) (put C1 p (.dw (some l) es))
    | some (.dw (some l) es) => PI (es.map fun e => .tup [e.1, e.2]) (fun C' => C' p = some (.dw (some l) es)) C1
    | _ => False)
  | _ => False
theorem g_iiw (h : e s C (kIIW PI)) : aIIW e s C PI := h
end
section
variable {C : AH} {s : ASt} {e2 : AE'} {P : D → AH → Prop}
theorem g_kAndF (h : P (.bl false) C) : kAndV e2 s P (.bl false) C := g_kAnd (fun z => nomatch z) fun _ => h
theorem g_kAndT (h : e2 s C P) : kAndV e2 s P (.bl true) C := g_kAnd (fun _ => h) fun z => nomatch z
theorem g_kOrF (h : e2 s C P) : kOrV e2 s P (.bl false) C := g_kOr (fun z => nomatch z) fun _ => h
theorem g_kOrT (h : P (.bl true) C) : kOrV e2 s P (.bl true) C := g_kOr (fun _ => h) fun z => nomatch z
end
end AL
namespace AL
open PySem PySem.Spec PyProof.Rows L2
end AL
namespace AL
open PySem PySem.Spec PyProof.Rows L2
variable {B : Bs}
section
variable {prog : Program} {w : World} {A : Around} {E : Value → Shared → Prop} {s : Shared} {z TI TO i1 i2 T : Addr} {fp1 fp2 : List Addr} {n1 n2 i : Nat} {P1 P2 : Nat → Value → Prop} {St1 St2 : Nat → Heap → Prop} {f : Bool} {oT : Obj}
/-- the next pair, while the last one is still held -/
theorem dz_item {Q : Value → Shared → Prop} (S : ZipSep2 z TI TO i1 i2 fp1 fp2) (D1 : Draws prog w A i1 fp1 n1 P1 St1) (D2 : Draws prog w A i2 fp2 n2 P2 St2)
    (hz : IsZipHeld s.heap z TI TO T f) (hT : s.heap.get? T = some oT) (hI : IsTupOf2 s.heap TI (.ref i1) (.ref i2)) (t1 : St1 i s.heap) (t2 : St2 i s.heap) (l1 : i < n1) (l2 : i < n2)
    (k : ∀ u v h' tk, P1 i u → P2 i v → IsZipHeld h' z TI TO T true → St1 (i + 1) h' → St2 (i + 1) h' → IsTupOf2 h' s.heap.objs.size u v →
      (∀ c o, c ≠ z → c ≠ i1 → c ≠ i2 → s.heap.get? c = some o → h'.get? c = some o) → Q (.ref s.heap.objs.size) { s with heap := h', toks := tk }) :
    wpAny (model prog w) A (Builtin.«zip.__next__» ⟨[.ref z], []⟩) (fun fin s' => ∃ v, fin = .done (.ret v) ∧ Q v s') E s := by
  obtain ⟨hp, g, d, tk, os⟩ := s
  have z1 := S.zi1; have z2 := S.zi2
  have i12 : i1 ≠ i2 := fun e => S.sep1_2 (e ▸ S.mem2)
  show wpAny _ A (field (.ref z) 2 >>= _) _ E _
  apply wpAny_bind; apply wpAny_field hz (by rfl) (x := .bool false) (by rfl)
  show wpAny _ A (field (.ref z) 3 >>= _) _ E _
  apply wpAny_bind; apply wpAny_field hz (by rfl) (x := .ref TI) (by rfl)
  apply wpAny_bind; apply wpAny_seqItems hI (by rfl)
  show wpAny _ A (Builtin.SmallTypes.ownedTupleIsFree (.ref z) >>= _) _ E _
  apply wpAny_bind
  refine wpAny_tupleHeld_zip hz hT fun q1 y1 e1 => ?_
  replace e1 : Heap.SameBut z hp q1 := e1
  rw [if_neg Bool.false_ne_true]
  apply wpAny_bind
  rw [← Array.forIn_toList, show (#[Value.ref i1, Value.ref i2] : Array Value).toList = [.ref i1, .ref i2] from rfl]
  simp only [List.forIn_nil, List.forIn_cons]
  apply wpAny_bind; apply wpAny_bind; apply wpAny_holding
  show wpAny _ A (Builtin.SmallTypes.nextOf (.ref i1) >>= _) _ E ⟨q1, g, d, tk, os⟩
  apply wpAny_bind
  refine D1.item i _ _ _ l1 (D1.over t1 e1 S.zf1) fun u q2 tk2 a1 b1 e2 => ?_
  replace e2 : Heap.SameBut i1 q1 q2 := e2
  apply wpAny_pure; apply wpAny_pure
  apply wpAny_bind; apply wpAny_bind; apply wpAny_holding
  show wpAny _ A (Builtin.SmallTypes.nextOf (.ref i2) >>= _) _ E ⟨q2, g, d, tk2, os⟩
  apply wpAny_bind
  refine D2.item i _ _ _ l2 (D2.over (D2.over t2 e1 S.zf2) e2 S.sep1_2) fun v q3 tk3 a2 b2 e3 => ?_
  replace e3 : Heap.SameBut i2 q2 q3 := e3
  apply wpAny_pure; apply wpAny_pure; apply wpAny_pure
  show wpAny _ A (newTuple [u, v] >>= _) _ E ⟨q3, g, d, tk3, os⟩
  apply wpAny_bind; refine wpAny_newTuple ?_
  have sz : q3.objs.size = hp.objs.size := e3.1.trans (e2.1.trans e1.1)
  have zz : IsZipHeld q3 z TI TO T true := e3.extBut z _ z2 (e2.extBut z _ z1 y1)
  have kk : ∀ c o, c ≠ z → c ≠ i1 → c ≠ i2 → hp.get? c = some o → q3.get? c = some o := fun c o h0 h1 h2 e => e3.extBut c o h2 (e2.extBut c o h1 (e1.extBut c o h0 e))
  have s1 := D1.over b1 e3 S.sep2_1
  have up : ∀ c o, q3.get? c = some o → (q3.push { cls := .type "tuple", data := .seq #[u, v] }).get? c = some o := fun c o e => Heap.get?_push_of_some _ e
  have pr : IsTupOf2 (q3.push { cls := .type "tuple", data := .seq #[u, v] }) q3.objs.size u v := Heap.get?_push_size _ (by rfl)
  apply wpAny_pure
  refine ⟨.ref q3.objs.size, rfl, ?_⟩
  rw [sz] at pr ⊢
  exact k u v _ tk3 a1 a2 (up _ _ zz) (D1.frame _ _ _ s1 fun c _ o e => up c o e) (D2.frame _ _ _ b2 fun c _ o e => up c o e) pr fun c o h0 h1 h2 e => up c o (kk c o h0 h1 h2 e)
theorem dz_end {Q : Fin → Shared → Prop} (S : ZipSep2 z TI TO i1 i2 fp1 fp2) (D1 : Draws prog w A i1 fp1 n1 P1 St1) (D2 : Draws prog w A i2 fp2 n2 P2 St2)
    (hz : IsZipHeld s.heap z TI TO T f) (hT : s.heap.get? T = some oT) (hI : IsTupOf2 s.heap TI (.ref i1) (.ref i2)) (t1 : St1 i s.heap) (t2 : St2 i s.heap) (l1 : i ≤ n1) (l2 : i ≤ n2) (le : i = n1 ∨ i = n2)
    (k : ∀ h' tk e, (∀ c o, c ≠ z → c ≠ i1 → c ≠ i2 → s.heap.get? c = some o → h'.get? c = some o) → (∃ o, h'.get? e = some o ∧ o.cls = .type "StopIteration") → E (.ref e) { s with heap := h', toks := tk }) :
    wpAny (model prog w) A (Builtin.«zip.__next__» ⟨[.ref z], []⟩) Q E s := by
  obtain ⟨hp, g, d, tk, os⟩ := s
  show wpAny _ A (field (.ref z) 2 >>= _) _ E _
  apply wpAny_bind; apply wpAny_field hz (by rfl) (x := .bool false) (by rfl)
  show wpAny _ A (field (.ref z) 3 >>= _) _ E _
  apply wpAny_bind; apply wpAny_field hz (by rfl) (x := .ref TI) (by rfl)
  apply wpAny_bind; apply wpAny_seqItems hI (by rfl)
  show wpAny _ A (Builtin.SmallTypes.ownedTupleIsFree (.ref z) >>= _) _ E _
  apply wpAny_bind
  refine wpAny_tupleHeld_zip hz hT fun q1 y1 e1 => ?_
  replace e1 : Heap.SameBut z hp q1 := e1
  rw [if_neg Bool.false_ne_true]
  apply wpAny_bind
  rw [← Array.forIn_toList, show (#[Value.ref i1, Value.ref i2] : Array Value).toList = [.ref i1, .ref i2] from rfl]
  simp only [List.forIn_nil, List.forIn_cons]
  apply wpAny_bind; apply wpAny_bind; apply wpAny_holding
  show wpAny _ A (Builtin.SmallTypes.nextOf (.ref i1) >>= _) _ E ⟨q1, g, d, tk, os⟩
  apply wpAny_bind
  by_cases hl : i < n1
  · refine D1.item i _ _ _ hl (D1.over t1 e1 S.zf1) fun u q2 tk2 a1 b1 e2 => ?_
    replace e2 : Heap.SameBut i1 q1 q2 := e2
    apply wpAny_pure; apply wpAny_pure
    apply wpAny_bind; apply wpAny_bind; apply wpAny_holding
    show wpAny _ A (Builtin.SmallTypes.nextOf (.ref i2) >>= _) _ E ⟨q2, g, d, tk2, os⟩
    apply wpAny_bind
    have en : i = n2 := le.resolve_left (Nat.ne_of_lt hl)
    subst en
    refine D2.done ⟨q2, g, d, tk2, os⟩ _ _ (D2.over (D2.over t2 e1 S.zf2) e2 S.sep1_2) fun q3 e h3 he => ?_
    exact k q3 tk2 e (fun c o h0 h1 h2 x => h3 c o h2 (e2.extBut c o h1 (e1.extBut c o h0 x))) he
  · have en : i = n1 := Nat.le_antisymm l1 (Nat.not_lt.mp hl)
    subst en
    refine D1.done ⟨q1, g, d, tk, os⟩ _ _ (D1.over t1 e1 S.zf1) fun q3 e h3 he => ?_
    exact k q3 tk e (fun c o h0 h1 _ x => h3 c o h1 (e1.extBut c o h0 x)) he
theorem dz_next {Q : Option Value → Shared → Prop} (S : ZipSep2 z TI TO i1 i2 fp1 fp2) (D1 : Draws prog w A.in1 i1 fp1 n1 P1 St1) (D2 : Draws prog w A.in1 i2 fp2 n2 P2 St2)
    (hz : IsZipHeld s.heap z TI TO T f) (hT : s.heap.get? T = some oT) (hI : IsTupOf2 s.heap TI (.ref i1) (.ref i2)) (t1 : St1 i s.heap) (t2 : St2 i s.heap) (l1 : i < n1) (l2 : i < n2)
    (k : ∀ u v h' tk, P1 i u → P2 i v → IsZipHeld h' z TI TO T true → St1 (i + 1) h' → St2 (i + 1) h' → IsTupOf2 h' s.heap.objs.size u v →
      (∀ c o, c ≠ z → c ≠ i1 → c ≠ i2 → s.heap.get? c = some o → h'.get? c = some o) → Q (some (.ref s.heap.objs.size)) { s with heap := h', toks := tk }) :
    wpAny (model prog w) A (pyNext (.ref z)) Q E s := by
  have ty : s.TypeIs (.ref z) "zip" := ⟨_, hz, rfl⟩
  unfold pyNext
  apply wpAny_bind; apply wpAny_attempt
  refine wpAny_callSpecial?_slot (name := Str.ofString "__next__") ty F.slot_zip_next (wpAny_call_entry F.slot_zip_next ty F.entry_zip_next (dz_item S D1 D2 hz hT hI t1 t2 l1 l2 fun u v h' tk a1 a2 a3 a4 a5 a6 a7 => ?_) (F.args_zip_next_1 _))
  exact wpAny_pure (k u v h' tk a1 a2 a3 a4 a5 a6 a7)
theorem dz_stop {Q : Option Value → Shared → Prop} (S : ZipSep2 z TI TO i1 i2 fp1 fp2) (D1 : Draws prog w A.in1 i1 fp1 n1 P1 St1) (D2 : Draws prog w A.in1 i2 fp2 n2 P2 St2)
    (hz : IsZipHeld s.heap z TI TO T f) (hT : s.heap.get? T = some oT) (hI : IsTupOf2 s.heap TI (.ref i1) (.ref i2)) (t1 : St1 i s.heap) (t2 : St2 i s.heap) (l1 : i ≤ n1) (l2 : i ≤ n2) (le : i = n1 ∨ i = n2)
    (k : ∀ h' tk, (∀ c o, c ≠ z → c ≠ i1 → c ≠ i2 → s.heap.get? c = some o → h'.get? c = some o) → Q none { s with heap := h', toks := tk }) :
    wpAny (model prog w) A (pyNext (.ref z)) Q E s := by
  have ty : s.TypeIs (.ref z) "zip" := ⟨_, hz, rfl⟩
  unfold pyNext
  apply wpAny_bind; apply wpAny_attempt
  refine wpAny_callSpecial?_slot (name := Str.ofString "__next__") ty F.slot_zip_next (wpAny_call_entry F.slot_zip_next ty F.entry_zip_next (dz_end S D1 D2 hz hT hI t1 t2 l1 l2 le fun h' tk e h1 he => ?_) (F.args_zip_next_1 _))
  obtain ⟨oe, g1, g2⟩ := he
  apply wpAny_bind
  exact wpAny_isInstance (T := "StopIteration") (b := true) ⟨oe, g1, g2⟩ isSubtype_stop (wpAny_pure (k h' tk h1))
end
section
variable {prog : Program} {w : World}
/-- sign i of one text and sign i of the other -/
def Sg2 (x y : Str) (i : Nat) (k v : Value) : Prop := ∃ c e t u, x.cps[i]? = some c ∧ y.cps[i]? = some e ∧ k = .str ⟨#[c]⟩ t ∧ v = .str ⟨#[e]⟩ u
theorem dz_arg {z TI TO i1 i2 : Addr} (S : ZipSep2 z TI TO i1 i2 [i1] [i2]) (x y : Str) (tx ty : Tok) :
    PairArg prog w "zip" z [z, TI, TO, i1, i2] [z, TO, i1, i2] (min x.cps.size y.cps.size) (Sg2 x y)
      (fun h => IsZip h z TI TO .none ∧ IsTupOf2 h TI (.ref i1) (.ref i2) ∧ (∃ a b, IsTupOf2 h TO a b) ∧ h.IsStrIter i1 (strIterType x) x tx 0 ∧ h.IsStrIter i2 (strIterType y) y ty 0) where
  type := fun s ok => ⟨_, ok.1, rfl⟩
  notDict := by decide
  keep := fun h h' ok kp => ⟨kp _ _ ok.1, kp _ _ ok.2.1, by obtain ⟨a, b, e⟩ := ok.2.2.1; exact ⟨a, b, kp _ _ e⟩, by obtain ⟨o, e, r⟩ := ok.2.2.2.1; exact ⟨o, kp _ _ e, r⟩, by obtain ⟨o, e, r⟩ := ok.2.2.2.2; exact ⟨o, kp _ _ e, r⟩⟩
  there := fun h ok b hb => by
    obtain ⟨g1, g2, ⟨a, c, g3⟩, ⟨o4, g4, _⟩, ⟨o5, g5, _⟩⟩ := ok
    simp only [List.mem_cons, List.not_mem_nil, or_false] at hb
    rcases hb with e | e | e | e | e <;> rw [e]
    · exact ⟨_, g1⟩
    · exact ⟨_, g2⟩
    · exact ⟨_, g3⟩
    · exact ⟨_, g4⟩
    · exact ⟨_, g5⟩
  sub := fun b hb => by
    simp only [List.mem_cons, List.not_mem_nil, or_false] at hb ⊢
    rcases hb with e | e | e | e <;> simp [e]
  noKeys := fun A s Q E hA ok k => getAttrOr_miss_zip ok.1 rfl rfl rfl zip_no_keys (by decide +kernel) hA k
  iter := fun A s d Q E hA ok hd off k => by
    have hA1 : A.in1.handled = none := hA
    have D1 := Draws.text (prog := prog) (w := w) hA1 i1 x tx
    have D2 := Draws.text (prog := prog) (w := w) hA1 i2 y ty
    obtain ⟨g1, g2, ⟨a, b, g3⟩, g4, g5⟩ := ok
    simp only [List.mem_cons, List.not_mem_nil, or_false, not_or] at off
    obtain ⟨o1, o2, o3, o4, o5⟩ := off
    have mw : ∀ {c : Addr}, c ∉ [z, TO, i1, i2] → c ≠ z ∧ c ≠ TO ∧ c ≠ i1 ∧ c ≠ i2 := fun hc => by simpa [not_or] using hc
    refine wpAny_pyIter_zip g1 (k z [z, TO, i1, i2] (fun i h => IsTupOf2 h TI (.ref i1) (.ref i2) ∧ h.IsStrIter i1 (strIterType x) x tx i ∧ h.IsStrIter i2 (strIterType y) y ty i ∧
      ((IsZip h z TI TO .none ∧ ∃ a b, IsTupOf2 h TO a b) ∨ ∃ T f oT, IsZipHeld h z TI TO T f ∧ h.get? T = some oT ∧ T ≠ z ∧ T ≠ i1 ∧ T ≠ i2 ∧ T ≠ d)) s.heap s.toks ?_ ⟨g2, g4, g5, .inl ⟨g1, a, b, g3⟩⟩ (fun _ _ e => e) fun b hb => .inl hb)
    refine ⟨?_, ?_, ?_, ?_⟩
    · intro hm
      simp only [List.mem_cons, List.not_mem_nil, or_false] at hm
      rcases hm with e | e | e | e
      · exact o1 e
      · exact o3 e
      · exact o4 e
      · exact o5 e
    · rintro i h1 h2 ⟨f1, f2, f3, f4⟩ kp
      refine ⟨kp _ _ (Ne.symm o2) f1, D1.frame _ _ _ f2 fun c hc o e => kp c o (fun q => o4 (q.symm.trans (List.mem_singleton.mp hc))) e, D2.frame _ _ _ f3 fun c hc o e => kp c o (fun q => o5 (q.symm.trans (List.mem_singleton.mp hc))) e, ?_⟩
      rcases f4 with ⟨p1, a, b, p2⟩ | ⟨T, f, oT, p1, p2, r1, r2, r3, r4⟩
      · exact .inl ⟨kp _ _ (Ne.symm o1) p1, a, b, kp _ _ (Ne.symm o3) p2⟩
      · exact .inr ⟨T, f, oT, kp _ _ (Ne.symm o1) p1, kp _ _ r4 p2, r1, r2, r3, r4⟩
    · intro i s1 Q1 E1 hi st hds kq
      obtain ⟨f1, f2, f3, f4⟩ := st
      have lx : i < x.cps.size := by omega
      have ly : i < y.cps.size := by omega
      have lt : ∀ {c o}, s1.heap.get? c = some o → s1.heap.objs.size ≠ c := fun e => Nat.ne_of_gt (Heap.lt_size e)
      have m1 : s1.heap.objs.size ≠ i1 := let ⟨_, e, _⟩ := f2; lt e
      have m2 : s1.heap.objs.size ≠ i2 := let ⟨_, e, _⟩ := f3; lt e
      rcases f4 with ⟨p1, a, b, p2⟩ | ⟨T, f, oT, p1, p2, r1, r2, r3, r4⟩
      · refine wpAny_pyNext_zipD2_item S D1 D2 p1 f1 p2 f2 f3 lx ly fun u v h' tk q1 q2 b1 b2 d1 d2 b5 b6 hk => ?_
        obtain ⟨c, t, c1, rfl⟩ := q1
        obtain ⟨e, t2, c2, rfl⟩ := q2
        exact kq s1.heap.objs.size _ _ h' tk ⟨c, e, t, t2, c1, c2, rfl, rfl⟩ (.inl ⟨_, b5, rfl, _, rfl⟩) ⟨hk _ _ S.TIz S.TITO S.TIi1 S.TIi2 f1, d1, d2, .inr ⟨s1.heap.objs.size, false, _, b1, b5, lt p1, m1, m2, Nat.ne_of_gt hds⟩⟩ fun c o hc e => hk c o (mw hc).1 (mw hc).2.1 (mw hc).2.2.1 (mw hc).2.2.2 e
      · refine dz_next S D1 D2 p1 p2 f1 f2 f3 lx ly fun u v h' tk q1 q2 b1 d1 d2 b5 hk => ?_
        obtain ⟨c, t, c1, rfl⟩ := q1
        obtain ⟨e, t2, c2, rfl⟩ := q2
        exact kq s1.heap.objs.size _ _ h' tk ⟨c, e, t, t2, c1, c2, rfl, rfl⟩ (.inl ⟨_, b5, rfl, _, rfl⟩) ⟨hk _ _ S.TIz S.TIi1 S.TIi2 f1, d1, d2, .inr ⟨T, true, oT, b1, hk _ _ r1 r2 r3 p2, r1, r2, r3, r4⟩⟩ fun c o hc e => hk c o (mw hc).1 (mw hc).2.2.1 (mw hc).2.2.2 e
    · intro s1 Q1 E1 st kq
      obtain ⟨f1, f2, f3, f4⟩ := st
      have l1 : min x.cps.size y.cps.size ≤ x.cps.size := Nat.min_le_left ..
      have l2 : min x.cps.size y.cps.size ≤ y.cps.size := Nat.min_le_right ..
      have le : min x.cps.size y.cps.size = x.cps.size ∨ min x.cps.size y.cps.size = y.cps.size := by omega
      rcases f4 with ⟨p1, a, b, p2⟩ | ⟨T, f, oT, p1, p2, r1, r2, r3, r4⟩
      · exact wpAny_pyNext_zipD2_end S D1 D2 p1 f1 p2 f2 f3 l1 l2 le fun h' tk hk => kq h' tk fun c o hc e => hk c o (mw hc).1 (mw hc).2.1 (mw hc).2.2.1 (mw hc).2.2.2 e
      · exact dz_stop S D1 D2 p1 p2 f1 f2 f3 l1 l2 le fun h' tk hk => kq h' tk fun c o hc e => hk c o (mw hc).1 (mw hc).2.2.1 (mw hc).2.2.2 e
/-- the signs of two texts, side by side -/
def sgZ (x y : Str) : List (Key × V) := (x.cps.toList.zip y.cps.toList).map fun p => (.inr ⟨#[p.1]⟩, .str ⟨#[p.2]⟩)
theorem sgZ_len (x y : Str) : (sgZ x y).length = min x.cps.size y.cps.size := by unfold sgZ; rw [List.length_map, List.length_zip, Array.length_toList, Array.length_toList]
theorem sgZ_get {x y : Str} {i : Nat} {c e : Nat} (h1 : x.cps[i]? = some c) (h2 : y.cps[i]? = some e) : (sgZ x y)[i]? = some (.inr ⟨#[c]⟩, .str ⟨#[e]⟩) := by
  unfold sgZ
  have g : (x.cps.toList.zip y.cps.toList)[i]? = some (c, e) := List.getElem?_zip_eq_some.mpr ⟨by rw [Array.getElem?_toList]; exact h1, by rw [Array.getElem?_toList]; exact h2⟩
  rw [List.getElem?_map, g]
  rfl
theorem merge_snoc (l : List (Key × V)) (k : Key) (v : V) : mergeK [] (l ++ [(k, v)]) = putK (mergeK [] l) k v := by
  unfold mergeK
  rw [List.foldl_append]
  rfl
variable {A : Around} {E : Value → Shared → Prop} {s : Shared} {z TI TO i1 i2 : Addr}
theorem call_dict_zip {Q : Value → Shared → Prop} (S : ZipSep2 z TI TO i1 i2 [i1] [i2]) (x y : Str) (tx ty : Tok) (hh : A.handled = none) (hl : x.cps.size ≤ 4000)
    (ok : IsZip s.heap z TI TO .none ∧ IsTupOf2 s.heap TI (.ref i1) (.ref i2) ∧ (∃ a b, IsTupOf2 s.heap TO a b) ∧ s.heap.IsStrIter i1 (strIterType x) x tx 0 ∧ s.heap.IsStrIter i2 (strIterType y) y ty 0)
    (h : ∀ h' tk vs, KV (mergeK [] (sgZ x y)) vs → h'.DictOf (mixKind prog w) s.heap.objs.size vs → (∀ b o, b ∉ [z, TO, i1, i2] → s.heap.get? b = some o → h'.get? b = some o) → Q (.ref s.heap.objs.size) { s with heap := h', toks := tk }) :
    wpAny (model prog w) A (call (.type "dict") [.ref z]) Q E s := by
  have PA := dz_arg (prog := prog) (w := w) S x y tx ty
  refine call_dict_arg PA ok fun s₁ e1 off ok1 => ?_
  subst e1
  refine updateFrom_arg (A := A.in1) (Tab := fun i h => ∃ vs, KV (mergeK [] ((sgZ x y).take i)) vs ∧ h.DictOf (mixKind prog w) s.heap.objs.size vs) PA .none hh ok1 off ⟨[], .nil, Heap.DictOf.new s.heap⟩ ?_ ?_ ?_ ?_
  · rintro i h ⟨_, _, t⟩
    exact t.lt_size
  · rintro i h h' wr' hd _ ⟨vs, r, t⟩ hk
    exact ⟨vs, r, t.at' fun o e => hk _ o hd e⟩
  · rintro i key v s2 Q2 E2 hi ⟨c, e, t, u, hc, he, rfl, rfl⟩ ⟨vs, r, tb⟩ _ hQ
    have hz : vs.length ≤ 4000 := by
      have h1 := KV.length r
      have h2 := length_mergeK ((sgZ x y).take i) []
      rw [List.length_nil, Nat.zero_add, List.length_take, sgZ_len] at h2
      omega
    refine wpAny_dictSet_pairs (k := (Sum.inr ⟨#[c]⟩ : Key)) (hsz := Nat.le_trans hz (by decide)) (by unfold mixKind; simp [L2.keyIs, Value.isStrOf]) tb fun h' tb' sb => ?_
    refine hQ h' _ ⟨_, ?_, tb'⟩ sb
    rw [List.take_add_one, sgZ_get hc he]
    show KV (mergeK [] ((sgZ x y).take i ++ [(Sum.inr ⟨#[c]⟩, V.str ⟨#[e]⟩)])) _
    rw [merge_snoc]
    exact KV.put r _ ⟨u, rfl⟩
  · rintro h' tk ⟨vs, r, tb⟩ hk
    rw [List.take_of_length_le (Nat.le_of_eq (sgZ_len x y))] at r
    exact ⟨rfl, h h' tk vs r tb fun b o hb e => hk b o (Nat.ne_of_lt (Heap.lt_size e)) hb (Heap.get?_push_of_some _ e)⟩
end
section
variable {X : Cx} {K : PySem.W.Frag}
def tDictZ (ta : TA) : TE := fun σ H Q => ta σ H fun vs H1 => ∃ x y : Str, vs = [.str x, .str y] ∧ x.cps.size ≤ 4000 ∧ ∀ p, H1 p = none → Q (.ref p) (upd H1 p (.dK (mergeK [] (sgZ x y))))
theorem pe_dictZ {a b : Expr} {ta : TA} {p p2 q pos : Pos} (hm : X.mg "dict" = none) (hm2 : X.mg "zip" = none) (ha : PA X [a, b] ta) (hc : X.calm = true := by rfl) (hg : Gl X "dict" := by rfl) (hg2 : Gl X "zip" := by rfl)
    (hs : starEach [a, b] X.env = (false, eval a X.env) :: starEach [b] X.env := by rfl) (hpl : (backTo q (starEach [b] X.env)).any (·.1) = false := by rfl) :
    PE X (.Call (.Name "dict" p) [.Call (.Name "zip" p2) [a, b] [] q] [] pos) (tDictZ ta) := by
  refine ⟨fun pins s σ H Q I h => Call_ (ld_blt I hg hm PyProof.Rows.boot_dict (PyProof.Rows.callWith_type1 (PyProof.Rows.args_cons ?_ rfl) rfl rfl))⟩
  refine Call_ (ld_blt I hg2 hm2 PyProof.Rows.boot_zip (PyProof.Rows.callWith_type1 (thn (ha.run q pins s σ H _ I h) fun us s1 ⟨vs, H1, I1, r1, q1⟩ => ?_) hs hpl))
  obtain ⟨x, y, rfl, hl, q1⟩ := q1
  cases r1 with
  | cons ra rr =>
  cases rr with
  | cons rb rr =>
  cases rr
  obtain ⟨tx, rfl⟩ := ra
  obtain ⟨ty, rfl⟩ := rb
  refine zip_begins2 (begins_text x tx) (begins_text y ty) trivial trivial fun h' hz hI hO g1 g2 hsz hk => ?_
  refine PyProof.Rows.args_nil ?_
  have ne : ∀ i j : Nat, i ≠ j → (s1.heap.objs.size + i : Nat) ≠ s1.heap.objs.size + j := fun i j h e => h (Nat.add_left_cancel e)
  have no : ∀ {a b : Addr}, a ≠ b → a ∉ [b] := fun h e => h (List.mem_singleton.mp e)
  have S : ZipSep2 (s1.heap.objs.size + 4) (s1.heap.objs.size + 2) (s1.heap.objs.size + 3) s1.heap.objs.size (s1.heap.objs.size + 1) [s1.heap.objs.size] [s1.heap.objs.size + 1] :=
    { TIz := ne 2 4 (by decide), TOz := ne 3 4 (by decide), TITO := ne 2 3 (by decide), TIi1 := ne 2 0 (by decide), mem1 := List.mem_singleton.mpr rfl, TIi2 := ne 2 1 (by decide), mem2 := List.mem_singleton.mpr rfl,
      zf1 := no (ne 4 0 (by decide)), Tf1 := no (ne 3 0 (by decide)), zf2 := no (ne 4 1 (by decide)), Tf2 := no (ne 3 1 (by decide)), sep1_2 := no (ne 0 1 (by decide)), sep2_1 := no (ne 1 0 (by decide)) }
  refine call_dict_zip S x y tx ty (I1.ok.hd hc) hl ⟨hz, hI, ⟨_, _, hO⟩, ⟨_, g1, rfl, rfl⟩, ⟨_, g2, rfl, rfl⟩⟩ fun h2 tk vs r hd k2 => ?_
  have big : s1.heap.objs.size ≤ h'.objs.size := by rw [hsz]; exact Nat.le_add_right _ _
  have hlen : (mergeK [] (sgZ x y)).length ≤ sizeLine := by
    refine Nat.le_trans (length_mergeK _ []) ?_
    rw [List.length_nil, Nat.zero_add, sgZ_len]
    exact Nat.le_trans (Nat.min_le_left _ _) (Nat.le_trans hl (by decide))
  have hm3 : (h'.objs.size == sysModules) = false := beq_eq_false_iff_ne.mpr (Nat.ne_of_gt (Nat.lt_of_lt_of_le I1.big big))
  have k3 : ∀ b u, s1.heap.get? b = some u → h2.get? b = some u := fun b u e => k2 b u (fun hb => by
    have hlt := Heap.lt_size e
    simp only [List.mem_cons, List.not_mem_nil, or_false] at hb
    rcases hb with z | z | z | z <;> rw [z] at hlt
    · exact absurd hlt (Nat.not_lt.mpr (Nat.le_add_right _ _))
    · exact absurd hlt (Nat.not_lt.mpr (Nat.le_add_right _ _))
    · exact absurd hlt (Nat.lt_irrefl _)
    · exact absurd hlt (Nat.not_lt.mpr (Nat.le_add_right _ _))) (hk b u e)
  exact ⟨.ref h'.objs.size, upd H1 h'.objs.size (.dK (mergeK [] (sgZ x y))), I1.laid (t' := tk) k3 big (show ObjOk X.prog X.w _ _ _ (.dK (mergeK [] (sgZ x y))) from ⟨hlen, hm3, vs, r, hd⟩), rfl, q1 _ (I1.hok.fresh big)⟩
def sgZD (x y : Str) : List (Key × D) := (x.cps.toList.zip y.cps.toList).map fun p => (.inr ⟨#[p.1]⟩, .str ⟨#[p.2]⟩)
theorem sgZ_rep {F : Hp} (x y : Str) : RepK K F (sgZ x y) (sgZD x y) := by
  unfold sgZ sgZD
  generalize x.cps.toList.zip y.cps.toList = l
  induction l with
  | nil => exact .nil
  | cons a l ih => exact .cons (.str _) ih
def aDictZ (m : Bool) (aa : AA') : AE' := fun s C P => aa s C fun ds C1 => match ds with
  | [.str x, .str y] => x.cps.size ≤ 4000 ∧ if m then ∀ p, C1 p = none → P (.ce p) (put C1 p (.dk (mergeD [] (sgZD x y)))) else P (.dk (mergeD [] (sgZD x y))) C1
  | _ => False
theorem ae_dictZ {m : Bool} {a b : Expr} {n : Nat} {ta : TA} {aa : AA'} {p p2 q pos : Pos} (hm : X.mg "dict" = none) (hm2 : X.mg "zip" = none) (ha : AA B X [a, b] n ta aa) (hc : X.calm = true := by rfl) (hg : Gl X "dict" := by rfl) (hg2 : Gl X "zip" := by rfl)
    (hs : starEach [a, b] X.env = (false, eval a X.env) :: starEach [b] X.env := by rfl) (hpl : (backTo q (starEach [b] X.env)).any (·.1) = false := by rfl) :
    AE B X (.Call (.Name "dict" p) [.Call (.Name "zip" p2) [a, b] [] q] [] pos) (tDictZ ta) (aDictZ m aa) := ⟨pe_dictZ hm hm2 ha.pa hc hg hg2 hs hpl, by
  intro σ s F C R H Q P hs hS h0 k
  refine ha.sim σ s F C R H _ _ hs hS h0 fun us vs F1 C1 H1 e1 S1 r0 hl h1 => ?_
  split at h1
  · rename_i x y
    cases r0 with
    | cons r1 r2 =>
    cases r2 with
    | cons r2 r3 =>
    cases r3
    cases r1
    cases r2
    refine ⟨x, y, rfl, h1.1, fun p hp => ?_⟩
    cases m with
    | true => exact k _ _ _ _ _ e1 (S1.newC hp (.dk (RepK.merge (sgZ_rep x y) .nil))) (.ce p) (h1.2 p (S1.freeC hp))
    | false =>
      have e := Ex.new (o := .dK (mergeK [] (sgZ x y))) (S1.freeF hp)
      exact k _ _ _ C1 _ (e1.trans e) (S1.newF hp _) (.dk upd_same ((RepK.merge (sgZ_rep x y) .nil).mono e)) h1.2
  · exact h1.elim⟩
end
section
variable {C : AH} {P : D → AH → Prop} {s : ASt} {aa : AA'}
def kDictZ (m : Bool) (P : D → AH → Prop) : List D → AH → Prop := fun ds C1 => match ds with
  | [.str x, .str y] => x.cps.size ≤ 4000 ∧ if m then ∀ p, C1 p = none → P (.ce p) (put C1 p (.dk (mergeD [] (sgZD x y)))) else P (.dk (mergeD [] (sgZD x y))) C1
  | _ => False
theorem g_dictZ {m : Bool} (h : aa s C (kDictZ m P)) : aDictZ m aa s C P := h
theorem g_kDictZ {x y : Str} (h1 : x.cps.size ≤ 4000) (h : P (.dk (mergeD [] (sgZD x y))) C) : kDictZ false P [.str x, .str y] C := ⟨h1, h⟩
end
end AL
local macro_rules | `(tactic| walk_at "ne") => `(tactic| first | with_reducible assumption | ((with_reducible refine Ne.symm ?_); (with_reducible assumption)))
local macro_rules | `(tactic| walk_at "look") => `(tactic| first
  | with_reducible assumption
  | with_reducible exact AL.put_same
  | ((with_reducible apply AL.put_other); (walk_at "ne"); (walk_at "look"))
  | ((with_reducible apply AL.del_other); (walk_at "ne"); (walk_at "look")))
local macro_rules | `(tactic| walk_at "mul") => `(tactic| first | exact Or.inr ⟨by omega, by omega⟩ | exact Or.inl ⟨by omega, by omega⟩)
local macro_rules | `(tactic| walk_at "go1") => `(tactic| first
  | with_reducible apply AL.g_seq
  | with_reducible apply AL.g_raiseI
  | with_reducible apply AL.g_kRI
  | with_reducible apply AL.g_asg
  | with_reducible apply AL.g_op
  | with_reducible apply AL.g_un
  | ((with_reducible apply AL.g_var); exact rfl)
  | with_reducible apply AL.g_c
  | ((with_reducible apply AL.g_gname'); (simp only [AL.wipeA, List.foldl_cons, List.foldl_nil, List.set_cons_zero, List.set_cons_succ]; exact rfl))
  | with_reducible apply AL.g_call
  | with_reducible apply AL.g_cons
  | with_reducible apply AL.g_nil
  | with_reducible apply AL.g_addI
  | with_reducible apply AL.g_sub
  | ((with_reducible apply AL.g_mul); (walk_at "mul"))
  | ((with_reducible apply AL.g_mod); (omega))
  | ((with_reducible apply AL.g_div); (exact ⟨by omega, by omega⟩))
  | ((with_reducible apply AL.g_pow); (exact ⟨by decide, by decide, by decide⟩))
  | with_reducible apply AL.g_lt
  | with_reducible apply AL.g_le
  | with_reducible apply AL.g_gt
  | with_reducible apply AL.g_ge
  | with_reducible apply AL.g_eqII
  | with_reducible apply AL.g_neII
  | with_reducible apply AL.g_eqBB
  | with_reducible apply AL.g_neBB
  | with_reducible apply AL.g_eqTT
  | with_reducible apply AL.g_neTT
  | with_reducible apply AL.g_is
  | with_reducible apply AL.g_isnot
  | with_reducible apply AL.g_B
  | with_reducible apply AL.g_kB
  | with_reducible apply AL.g_tru
  | with_reducible apply AL.g_kTruB
  | with_reducible apply AL.g_and
  | with_reducible apply AL.g_or
  | with_reducible apply AL.g_not
  | with_reducible apply AL.g_andV
  | with_reducible apply AL.g_orV
  | with_reducible apply AL.g_notV
  | with_reducible apply AL.g_kNot
  | with_reducible apply AL.g_if
  | with_reducible apply AL.g_ixL0
  | with_reducible apply AL.g_ixL1
  | with_reducible apply AL.g_ixL2
  | with_reducible apply AL.g_ixT0
  | with_reducible apply AL.g_ixT1
  | with_reducible apply AL.g_ixT2
  | with_reducible apply AL.g_ixT3
  | ((with_reducible apply AL.g_ixC); (walk_at "look"))
  | with_reducible apply AL.g_dictZ
  | with_reducible apply AL.g_lenL
  | with_reducible apply AL.g_lenT
  | with_reducible apply AL.g_lenR
  | ((with_reducible apply AL.g_lenC); (walk_at "look"))
  | with_reducible apply AL.g_abs
  | with_reducible apply AL.g_max2
  | with_reducible apply AL.g_min2
  | with_reducible apply AL.g_intI
  | with_reducible apply AL.g_intB
  | with_reducible apply AL.g_listL
  | with_reducible apply AL.g_listT
  | with_reducible apply AL.g_tupleL
  | with_reducible apply AL.g_tupleT
  | with_reducible apply AL.g_rev
  | with_reducible apply AL.g_ret
  | with_reducible apply AL.g_drop
  | with_reducible apply AL.g_next
  | with_reducible apply AL.g_retN
  | with_reducible apply AL.g_tup
  | with_reducible apply AL.g_lst
  | with_reducible apply AL.g_lstM
  | with_reducible apply AL.g_isi
  | with_reducible apply AL.g_kIsiI
  | with_reducible apply AL.g_kIsiB
  | with_reducible apply AL.g_kIsiN
  | with_reducible apply AL.g_kIsiS
  | with_reducible apply AL.g_kIsiL
  | with_reducible apply AL.g_kIsiT
  | with_reducible apply AL.g_kIsiK
  | with_reducible apply AL.g_meth
  | with_reducible apply AL.g_methT
  | with_reducible apply AL.g_tyT
  | with_reducible apply AL.g_meth0
  | ((with_reducible apply AL.g_gsetV); exact rfl)
  | ((with_reducible apply AL.g_kSet); (walk_at "look"); exact rfl)
  | ((with_reducible apply AL.g_frzL); exact rfl; (walk_at "look"))
  | ((with_reducible apply AL.g_gtup); exact rfl)
  | with_reducible apply AL.g_gcons
  | with_reducible apply AL.g_gnil
  | with_reducible apply AL.g_yes
  | with_reducible apply AL.g_sl
  | with_reducible apply AL.g_noPart
  | with_reducible apply AL.g_part
  | with_reducible apply AL.g_kPart
  | ((with_reducible apply AL.g_pen0); exact rfl; (walk_at "look"))
  | ((with_reducible apply AL.g_pen1); exact rfl; (walk_at "look"))
  | ((with_reducible apply AL.g_pen2); exact rfl; (walk_at "look"))
  | with_reducible apply AL.g_putK
  | ((with_reducible apply AL.g_kPut1); exact rfl; (walk_at "look"))
  | ((with_reducible apply AL.g_kPut2); exact rfl; (walk_at "look"))
  | with_reducible apply AL.g_par
  | ((with_reducible apply AL.g_kPar); (simp only [List.set_cons_zero, List.set_cons_succ]; exact rfl))
  | with_reducible apply AL.g_neg
  | with_reducible apply AL.g_chain
  | with_reducible apply AL.g_chain3
  | with_reducible apply AL.g_lenSet
  | with_reducible apply AL.g_inTab
  | with_reducible apply AL.g_kInTab
  | with_reducible apply AL.g_kNotInTab
  | with_reducible apply AL.g_ixTab
  | with_reducible apply AL.g_eqNil
  | with_reducible apply AL.g_neNil
  | with_reducible apply AL.g_iteT
  | with_reducible apply AL.g_iteF
  | with_reducible apply AL.g_iteNT
  | with_reducible apply AL.g_iteNF
  | with_reducible apply AL.g_for
  | with_reducible apply AL.g_il
  | with_reducible apply AL.g_it
  | with_reducible apply AL.g_is'
  | with_reducible apply AL.g_ikw
  | with_reducible apply AL.g_iiw
  | with_reducible apply AL.g_dispW
  | with_reducible apply AL.g_dict0W
  | with_reducible apply AL.g_ir1
  | with_reducible apply AL.g_ir3
  | ((with_reducible apply AL.g_kIR3); (omega))
  | with_reducible apply AL.g_ir2
  | with_reducible apply AL.g_ie
  | with_reducible apply AL.g_iz
  | with_reducible apply AL.g_kILl
  | with_reducible apply AL.g_kILr
  | with_reducible apply AL.g_kIT
  | with_reducible apply AL.g_kIS
  | with_reducible apply AL.g_kIE
  | with_reducible apply AL.g_kIZ
  | ((with_reducible apply AL.g_kIR1); (omega); (omega))
  | ((with_reducible apply AL.g_kIR2); (omega))
  | with_reducible apply AL.g_lc
  | with_reducible apply AL.g_lcM
  | ((with_reducible apply AL.g_bodyX); (simp only [List.map_cons, List.map_nil, List.length_cons, List.length_nil, List.cons_append, List.nil_append, List.reduceReplicate, Nat.reduceAdd, Nat.reduceSub]; exact rfl))
  | with_reducible apply AL.g_callX
  | with_reducible apply AL.g_raise
  | with_reducible apply AL.g_try
  | with_reducible apply AL.g_tryA
  | with_reducible apply AL.g_isX
  | with_reducible apply AL.g_get1
  | with_reducible apply AL.g_get2
  | with_reducible apply AL.g_getN
  | with_reducible apply AL.g_inN
  | with_reducible apply AL.g_get1N
  | with_reducible apply AL.g_putN
  | with_reducible apply AL.g_fld
  | with_reducible apply AL.g_fldPut
  | with_reducible apply AL.g_mth
  | with_reducible apply AL.g_mthX
  | with_reducible apply AL.g_make
  | with_reducible apply AL.g_setd
  | with_reducible apply AL.g_dispV
  | with_reducible apply AL.g_kDispVI
  | ((with_reducible apply AL.g_body'); (simp only [List.map_cons, List.map_nil, List.length_cons, List.length_nil, List.cons_append, List.nil_append, List.reduceReplicate, Nat.reduceAdd, Nat.reduceSub]; exact rfl))
  | ((with_reducible apply AL.g_sz); (simp only [List.length_cons, List.length_nil, PySem.sizeLine]; try omega))
  | ((with_reducible apply AL.g_ty); first | exact rfl | exact AL.isTy_ce (by walk_at "look") rfl))
local macro_rules | `(tactic| walk_at "go") => `(tactic| repeat walk_at "go1")
local macro_rules | `(tactic| walk_at "bo") => `(tactic| repeat (first | walk_at "go1" | with_reducible apply AL.g_kAndF | with_reducible apply AL.g_kAndT | with_reducible apply AL.g_kOrF | with_reducible apply AL.g_kOrT))
namespace A_k39
open PySem AL
def isubE : Str → Str → Option Bool := subL (("NoTongue", "Elder", false) :: ("NoTongue", "Near", false) :: ("NoTongue", "NoBack", false) :: ("NoTongue", "NoFit", false) :: ("NoTongue", "NoLine", false) :: ("NoTongue", "NoName", false) :: ("NoTongue", "NoNumber", false) :: ("NoTongue", "NoSentence", false) :: ("NoTongue", "NoText", false) :: ("NoTongue", "NoTongue", true) :: ("NoTongue", "NoWord", false) :: ("NoTongue", "TooMany", false) :: ("NoTongue", "TooMuch", false) :: ("NoTongue", "ValueError", true) :: [])
def subE : Str → Str → Option Bool := subL [("NoTongue", "WordError", true)]
def a_is_sign : AS' :=
  aRet (aAndV (aOp aEq (aCall aLen (aCons (aVar 0) (aNil))) (aC (.int 1))) (aAndV (aChain aLe aLe (aC (.int 33)) (aCall aOrd (aCons (aVar 0) (aNil))) (aC (.int 126))) (aOp aNe (aCall aOrd (aCons (aVar 0) (aNil))) (aC (.int 37)))))
def s_is_sign : ASp := aBody 1 a_is_sign
def a_signs_of : AS' :=
  aRet (aMeth "str" aJoin (aC (.str "")) (aCons (aVar 0) (aNil)))
def s_signs_of : ASp := aBody 1 a_signs_of
def a_text_by : AS' :=
  aRet (aMeth "str" aJoin (aC (.str "")) (aCons (aLc (aIS (aVar 1)) (aGName 2) (aYes) (aGetK (aVar 0) (aVar 2)) [2]) (aNil)))
def s_text_by : ASp := aBody 3 a_text_by
def a_law_pen : AS' :=
  aSeq (aAsg (aOp aAdd (aOp aMul (aC (.int 6151)) (aVar 1)) (aC (.int 3))) (aGName 2))
  (aSeq (aIfS (aB (aOp aLt (aVar 1) (aCall aLen (aCons (aVar 0) (aNil)))))
  (aAsg (aOp aIx (aVar 0) (aVar 1)) (aGName 2))
  (aIfS (aB (aOp aGt (aCall aLen (aCons (aVar 0) (aNil))) (aC (.int 0))))
  (aAsg (aOp aAdd (aOp aMod (aOp aIx (aVar 0) (aOp aMod (aVar 1) (aCall aLen (aCons (aVar 0) (aNil))))) (aC (.int 2147483629))) (aOp aMul (aC (.int 40503)) (aVar 1))) (aGName 2))
  (aNext)))
  (aSeq (aIfS (aB (aOp aGe (aVar 2) (aOp aPow (aC (.int 10)) (aC (.int 18)))))
  (aRet (aLstM (aCons (aOp aSub (aVar 2) (aOp aPow (aC (.int 10)) (aC (.int 18)))) (aCons (aOp aMod (aVar 2) (aC (.int 2147483587))) (aCons (aC (.int 0)) (aNil))))))
  (aNext))
  (aRet (aLstM (aCons (aC (.int 0)) (aCons (aOp aMod (aVar 2) (aC (.int 2147483587))) (aCons (aC (.int 0)) (aNil))))))))
def s_law_pen : ASp := aBody 3 a_law_pen
def a_law_draw : AS' :=
  aSeq (aAsg (aOp aAdd (aOp aIx (aVar 0) (aC (.int 2))) (aC (.int 1))) (aGSet (aVar 0) (aC (.int 2))))
  (aSeq (aIfS (aB (aOp aGt (aOp aIx (aVar 0) (aC (.int 0))) (aC (.int 0))))
  (aSeq (aAsg (aOp aMod (aOp aIx (aVar 0) (aC (.int 0))) (aVar 1)) (aGName 2))
  (aSeq (aAsg (aOp aDiv (aOp aIx (aVar 0) (aC (.int 0))) (aVar 1)) (aGSet (aVar 0) (aC (.int 0))))
  (aRet (aVar 2))))
  (aNext))
  (aSeq (aAsg (aOp aMod (aOp aAdd (aOp aAdd (aOp aIx (aVar 0) (aC (.int 1))) (aOp aMul (aC (.int 69621)) (aOp aIx (aVar 0) (aC (.int 2))))) (aC (.int 13))) (aC (.int 2147483629))) (aGName 3))
  (aSeq (aAsg (aOp aAdd (aOp aMod (aOp aMul (aVar 3) (aVar 3)) (aC (.int 2147483587))) (aOp aMul (aC (.int 6151)) (aOp aIx (aVar 0) (aC (.int 2))))) (aGName 3))
  (aSeq (aAsg (aOp aMod (aOp aMul (aVar 3) (aVar 3)) (aC (.int 2147483629))) (aGName 3))
  (aRet (aOp aMod (aOp aDiv (aVar 3) (aC (.int 64))) (aVar 1)))))))
def s_law_draw : ASp := aBody 4 a_law_draw
def a_law_weight (s_law_weight : ASp) : AS' :=
  aSeq (aAsg (aOp aIx (aVar 1) (aC (.int 0))) (aGName 2))
  (aSeq (aIfS (aB (aOp aEq (aVar 2) (aC (.str "not"))))
  (aRet (aCall s_law_weight (aCons (aVar 0) (aCons (aOp aIx (aVar 1) (aC (.int 1))) (aNil)))))
  (aNext))
  (aSeq (aIfS (aB (aOp aInL (aVar 2) (aTup (aCons (aC (.str "both")) (aCons (aC (.str "either")) (aNil))))))
  (aRet (aOp aMul (aCall s_law_weight (aCons (aVar 0) (aCons (aOp aIx (aVar 1) (aC (.int 1))) (aNil)))) (aCall s_law_weight (aCons (aVar 0) (aCons (aOp aIx (aVar 1) (aC (.int 2))) (aNil))))))
  (aNext))
  (aSeq (aIfS (aAnd (aB (aOp aEq (aVar 2) (aC (.str "long")))) (aB (aOp aIsN (aOp aIx (aVar 1) (aC (.int 2))) (aC .non))))
  (aRet (aOp aAdd (aOp aIx (aVar 1) (aC (.int 1))) (aC (.int 1))))
  (aNext))
  (aSeq (aIfS (aB (aOp aInL (aVar 2) (aTup (aCons (aC (.str "long")) (aCons (aC (.str "least")) (aNil))))))
  (aRet (aOp aAdd (aOp aIx (aVar 1) (aC (.int 2))) (aOp aIx (aLst (aCons (aC (.int 1)) (aCons (aC (.int 2)) (aNil)))) (aCall aInt (aCons (aOp aEq (aVar 2) (aC (.str "long"))) (aNil))))))
  (aNext))
  (aSeq (aIfS (aB (aOp aEq (aVar 2) (aC (.str "often"))))
  (aSeq (aAsg (aC (.int 1)) (aGName 3))
  (aSeq (aFor (aIS (aOp aIx (aVar 1) (aC (.int 1)))) (aGName 4)
  (aAsg (aOp aMul (aVar 3) (aOp aAdd (aOp aIx (aVar 1) (aC (.int 2))) (aC (.int 1)))) (aGName 3)))
  (aRet (aOp aAdd (aVar 3) (aC (.int 1))))))
  (aNext))
  (aSeq (aIfS (aB (aOp aEq (aVar 2) (aC (.str "apart"))))
  (aRet (aOp aAdd (aCall aLen (aCons (aMeth "str" aJoin (aC (.str "")) (aCons (aVar 0) (aNil))) (aNil))) (aC (.int 2))))
  (aNext))
  (aRet (aOp aAdd (aCall aLen (aCons (aOp aIx (aVar 1) (aC (.int 1))) (aNil))) (aOp aIx (aLst (aCons (aC (.int 1)) (aCons (aC (.int 2)) (aNil)))) (aCall aInt (aCons (aOp aEq (aVar 2) (aC (.str "begins"))) (aNil))))))))))))
def s_law_weight : Nat → ASp
  | 0 => fun _ _ _ => False
  | n + 1 => aBody 5 (a_law_weight (s_law_weight n))
def a_law_by : AS' :=
  aSeq (aAsg (aMeth "str" aJoin (aC (.str "")) (aCons (aVar 0) (aNil))) (aGName 3))
  (aSeq (aAsg (aMeth "str" aJoin (aC (.str "")) (aCons (aVar 1) (aNil))) (aGName 4))
  (aRet (aMeth "str" aJoin (aC (.str "")) (aCons (aLc (aIS (aVar 2)) (aGName 5) (aYes) (aOp aIx (aVar 4) (aMeth "str" aSfind (aVar 3) (aCons (aVar 5) (aNil)))) [5]) (aNil)))))
def s_law_by : ASp := aBody 6 a_law_by
def a_law_mark : AS' :=
  aSeq (aAsg (aLstM (aCons (aIsX isubE ["NoTongue"] (aVar 0)) (aCons (aIsX isubE ["NoSentence"] (aVar 0)) (aCons (aIsX isubE ["TooMany"] (aVar 0)) (aCons (aIsX isubE ["TooMuch"] (aVar 0)) (aNil)))))) (aGName 1))
  (aSeq (aAsg (aOp aAddM (aVar 1) (aLst (aCons (aIsX isubE ["NoNumber"] (aVar 0)) (aCons (aIsX isubE ["NoWord"] (aVar 0)) (aCons (aIsX isubE ["NoFit"] (aVar 0)) (aCons (aIsX isubE ["Elder"] (aVar 0)) (aNil))))))) (aGName 1))
  (aSeq (aAsg (aOp aAddM (aVar 1) (aLst (aCons (aIsX isubE ["Near"] (aVar 0)) (aCons (aIsX isubE ["NoBack"] (aVar 0)) (aCons (aIsX isubE ["NoText"] (aVar 0)) (aCons (aIsX isubE ["NoLine"] (aVar 0)) (aNil))))))) (aGName 1))
  (aSeq (aDrop (aMeth "list" aAppend (aVar 1) (aCons (aIsX isubE ["NoName"] (aVar 0)) (aNil))))
  (aFrz 1 (aSeq (aIfS (aOr (aB (aOp aNe (aMeth "list" aCountB (aVar 1) (aCons (aC (.bl true)) (aNil))) (aC (.int 1)))) (aNot (aTru (aIsX isubE ["ValueError"] (aVar 0)))))
  (aRet (aUn aNeg (aC (.int 1))))
  (aNext))
  (aRet (aMeth "list" aIndexB (aVar 1) (aCons (aC (.bl true)) (aNil)))))))))
def s_law_mark : ASp := aBody 2 a_law_mark
def a_law_no_tongues : AS' :=
  aSeq (aAsg (aOp aIx (aLc (aIS (aC (.str "azb0c1d2e3f4!"))) (aGName 5) (aB (aOp aNinS (aVar 5) (aMeth "str" aJoin (aC (.str "")) (aCons (aVar 0) (aNil))))) (aVar 5) [5]) (aC (.int 0))) (aGName 2))
  (aSeq (aAsg (aOp aIx (aVar 1) (aC (.int 0))) (aGName 3))
  (aSeq (aAsg (aLst (aCons (aSl aCut (aVar 1) (aPart (aC (.int 1))) aNoPart) (aCons (aOp aAdd (aVar 1) (aTup (aCons (aVar 2) (aNil)))) (aCons (aOp aAdd (aTup (aCons (aOp aAdd (aVar 2) (aSl aCut (aVar 3) (aPart (aC (.int 1))) aNoPart)) (aNil))) (aSl aCut (aVar 1) (aPart (aC (.int 1))) aNoPart)) (aCons (aOp aAdd (aTup (aCons (aSl aCut (aVar 3) (aPart (aC (.int 1))) aNoPart) (aNil))) (aSl aCut (aVar 1) (aPart (aC (.int 1))) aNoPart)) (aCons (aCall aListOf (aCons (aVar 1) (aNil))) (aNil))))))) (aGName 4))
  (aSeq (aAsg (aOp aAdd (aVar 4) (aLst (aCons (aMeth "str" aJoin (aC (.str "")) (aCons (aVar 1) (aNil))) (aCons (aC .non) (aCons (aC (.int 0)) (aCons (aC (.bl true)) (aCons (aTup (aNil)) (aCons (aDict0F) (aCons (aOp aAdd (aTup (aCons (aOp aAdd (aVar 3) (aOp aIx (aVar 3) (aC (.int 0)))) (aNil))) (aSl aCut (aVar 1) (aPart (aC (.int 1))) aNoPart)) (aCons (aOp aAdd (aVar 1) (aTup (aCons (aOp aIx (aVar 3) (aC (.int 0))) (aNil)))) (aCons (aTup (aCons (aC (.str "")) (aNil))) (aNil)))))))))))) (aGName 4))
  (aSeq (aAsg (aOp aAdd (aVar 4) (aLst (aCons (aOp aAdd (aTup (aCons (aOp aAdd (aVar 3) (aVar 2)) (aNil))) (aSl aCut (aVar 1) (aPart (aC (.int 1))) aNoPart)) (aCons (aOp aAdd (aTup (aCons (aC .non) (aNil))) (aSl aCut (aVar 1) (aPart (aC (.int 1))) aNoPart)) (aCons (aOp aAdd (aTup (aCons (aCall aListS (aCons (aVar 3) (aNil))) (aNil))) (aSl aCut (aVar 1) (aPart (aC (.int 1))) aNoPart)) (aNil)))))) (aGName 4))
  (aSeq (aIfS (aB (aOp aGt (aCall aLen (aCons (aVar 1) (aNil))) (aC (.int 1))))
  (aAsg (aOp aAdd (aVar 4) (aLst (aCons (aUn aRevT (aVar 1)) (aCons (aOp aAdd (aTup (aCons (aOp aAdd (aOp aIx (aOp aIx (aVar 1) (aC (.int 1))) (aC (.int 0))) (aSl aCut (aVar 3) (aPart (aC (.int 1))) aNoPart)) (aCons (aOp aAdd (aOp aIx (aVar 3) (aC (.int 0))) (aSl aCut (aOp aIx (aVar 1) (aC (.int 1))) (aPart (aC (.int 1))) aNoPart)) (aNil)))) (aSl aCut (aVar 1) (aPart (aC (.int 2))) aNoPart)) (aNil))))) (aGName 4))
  (aNext))
  (aRet (aVar 4)))))))
def s_law_no_tongues : ASp := aBody 6 a_law_no_tongues
def a_is_tongue : AS' :=
  aSeq (aIfS (aOr (aNot (aTru (aIsi "tuple" (aVar 0)))) (aNot (aB (aChain aLe aLe (aC (.int 1)) (aCall aLen (aCons (aVar 0) (aNil))) (aC (.int 4))))))
  (aRet (aC (.bl false)))
  (aNext))
  (aSeq (aIfS (aNot (aTru (aCall aAll (aCons (aLc (aIT (aVar 0)) (aGName 3) (aYes) (aAndV (aIsi "str" (aVar 3)) (aChain aLe aLe (aC (.int 1)) (aCall aLen (aCons (aVar 3) (aNil))) (aC (.int 6)))) [3]) (aNil)))))
  (aRet (aC (.bl false)))
  (aNext))
  (aSeq (aAsg (aMeth "str" aJoin (aC (.str "")) (aCons (aVar 0) (aNil))) (aGName 1))
  (aSeq (aIfS (aOr (aB (aOp aGt (aCall aLen (aCons (aVar 1) (aNil))) (aC (.int 12)))) (aB (aOp aLt (aLenSet (aVar 1)) (aCall aLen (aCons (aVar 1) (aNil))))))
  (aRet (aC (.bl false)))
  (aNext))
  (aRet (aCall aAll (aCons (aLc (aIS (aVar 1)) (aGName 2) (aYes) (aCall s_is_sign (aCons (aVar 2) (aNil))) [2]) (aNil)))))))
def s_is_tongue : ASp := aBody 4 a_is_tongue
def a_sentence_by (s_sentence_by : ASp) : AS' :=
  aSeq (aAsg (aOp aIx (aVar 1) (aC (.int 0))) (aGName 2))
  (aSeq (aIfS (aB (aOp aEq (aVar 2) (aC (.str "often"))))
  (aRet (aTup (aCons (aVar 2) (aCons (aCall s_text_by (aCons (aVar 0) (aCons (aOp aIx (aVar 1) (aC (.int 1))) (aNil)))) (aCons (aOp aIx (aVar 1) (aC (.int 2))) (aNil))))))
  (aNext))
  (aSeq (aIfS (aB (aOp aInL (aVar 2) (aTup (aCons (aC (.str "without")) (aCons (aC (.str "begins")) (aCons (aC (.str "ends")) (aNil)))))))
  (aRet (aTup (aCons (aVar 2) (aCons (aCall s_text_by (aCons (aVar 0) (aCons (aOp aIx (aVar 1) (aC (.int 1))) (aNil)))) (aNil)))))
  (aNext))
  (aSeq (aIfS (aB (aOp aEq (aVar 2) (aC (.str "not"))))
  (aRet (aTup (aCons (aVar 2) (aCons (aCall s_sentence_by (aCons (aVar 0) (aCons (aOp aIx (aVar 1) (aC (.int 1))) (aNil)))) (aNil)))))
  (aNext))
  (aSeq (aIfS (aOr (aB (aOp aEq (aVar 2) (aC (.str "both")))) (aB (aOp aEq (aVar 2) (aC (.str "either")))))
  (aRet (aTup (aCons (aVar 2) (aCons (aCall s_sentence_by (aCons (aVar 0) (aCons (aOp aIx (aVar 1) (aC (.int 1))) (aNil)))) (aCons (aCall s_sentence_by (aCons (aVar 0) (aCons (aOp aIx (aVar 1) (aC (.int 2))) (aNil)))) (aNil))))))
  (aNext))
  (aRet (aVar 1))))))
def s_sentence_by : Nat → ASp
  | 0 => fun _ _ _ => False
  | n + 1 => aBody 3 (a_sentence_by (s_sentence_by n))
def a_law_tongue : AS' :=
  aSeq (aAsg (aC (.str "!\"#$&'()*+,-./0123456789:;<=>?@ABCDEFGHIJKLMNOPQRSTUVWXYZ[\\]^_`abcdefghijklmnopqrstuvwxyz{|}~")) (aGName 2))
  (aSeq (aAsg (aOp aAdd (aC (.int 1)) (aCall s_law_draw (aCons (aVar 0) (aCons (aC (.int 4)) (aNil))))) (aGName 3))
  (aSeq (aAsg (aLcM (aIR1 (aCons (aVar 3) (aNil))) (aGName 4) (aYes) (aOp aAdd (aC (.int 1)) (aCall s_law_draw (aCons (aVar 0) (aCons (aVar 1) (aNil))))) [4]) (aGName 5))
  (aSeq (aIfS (aAnd (aB (aOp aEq (aVar 1) (aC (.int 6)))) (aB (aOp aEq (aCall s_law_draw (aCons (aVar 0) (aCons (aC (.int 6)) (aNil)))) (aC (.int 0)))))
  (aAsg (aOp aIx (aLst (aCons (aLst (aCons (aC (.int 6)) (aCons (aC (.int 6)) (aNil)))) (aCons (aLst (aCons (aC (.int 4)) (aCons (aC (.int 4)) (aCons (aC (.int 4)) (aNil))))) (aCons (aLst (aCons (aC (.int 3)) (aCons (aC (.int 3)) (aCons (aC (.int 3)) (aCons (aC (.int 3)) (aNil)))))) (aCons (aLst (aCons (aC (.int 6)) (aCons (aC (.int 1)) (aCons (aC (.int 5)) (aNil))))) (aNil)))))) (aCall s_law_draw (aCons (aVar 0) (aCons (aC (.int 4)) (aNil))))) (aGName 5))
  (aNext))
  (aSeq (aWhile (aB (aOp aGt (aCall aSum (aCons (aVar 5) (aNil))) (aC (.int 12))))
  (aAsg (aOp aSub (aCall aMaxL (aCons (aVar 5) (aNil))) (aC (.int 1))) (aGSet (aVar 5) (aMeth "list" aLindex (aVar 5) (aCons (aCall aMaxL (aCons (aVar 5) (aNil))) (aNil))))))
  (aFrzO 5 (aSeq (aAsg (aLstM (aNil)) (aGName 6))
  (aSeq (aFor (aIL (aVar 5)) (aGName 7)
  (aSeq (aAsg (aC (.str "")) (aGName 8))
  (aSeq (aFor (aIR1 (aCons (aVar 7) (aNil))) (aGName 4)
  (aSeq (aAsg (aCall s_law_draw (aCons (aVar 0) (aCons (aCall aLen (aCons (aVar 2) (aNil))) (aNil)))) (aGName 9))
  (aSeq (aAsg (aOp aAdd (aVar 8) (aOp aIx (aVar 2) (aVar 9))) (aGName 8))
  (aAsg (aOp aAdd (aSl aCut (aVar 2) aNoPart (aPart (aVar 9))) (aSl aCut (aVar 2) (aPart (aOp aAdd (aVar 9) (aC (.int 1)))) aNoPart)) (aGName 2)))))
  (aDrop (aMeth "list" aAppend (aVar 6) (aCons (aVar 8) (aNil)))))))
  (aFrz 6 (aRet (aCall aTupleOf (aCons (aVar 6) (aNil))))))))))))
def s_law_tongue : ASp := aBody 10 a_law_tongue
def a_law_text : AS' :=
  aSeq (aAsg (aMeth "str" aJoin (aC (.str "")) (aCons (aVar 1) (aNil))) (aGName 3))
  (aSeq (aAsg (aOp aIx (aVar 3) (aCall s_law_draw (aCons (aVar 0) (aCons (aCall aLen (aCons (aVar 3) (aNil))) (aNil))))) (aGName 4))
  (aSeq (aAsg (aOp aEq (aCall s_law_draw (aCons (aVar 0) (aCons (aC (.int 3)) (aNil)))) (aC (.int 0))) (aGName 5))
  (aSeq (aFor (aIR1 (aCons (aCall s_law_draw (aCons (aVar 0) (aCons (aVar 2) (aNil)))) (aNil))) (aGName 6)
  (aSeq (aAsg (aOp aIx (aVar 3) (aCall s_law_draw (aCons (aVar 0) (aCons (aCall aLen (aCons (aVar 3) (aNil))) (aNil))))) (aGName 7))
  (aSeq (aIfS (aTru (aVar 5))
  (aAsg (aOp aIx (aVar 4) (aC (.int 0))) (aGName 7))
  (aNext))
  (aAsg (aOp aAdd (aVar 4) (aVar 7)) (aGName 4)))))
  (aRet (aVar 4)))))
def s_law_text : ASp := aBody 8 a_law_text
def a_law_other : AS' :=
  aSeq (aAsg (aLstM (aNil)) (aGName 2))
  (aSeq (aFor (aIT (aVar 1)) (aGName 3)
  (aSeq (aAsg (aC (.str "")) (aGName 4))
  (aSeq (aFor (aIS (aVar 3)) (aGName 5)
  (aSeq (aAsg (aCall s_law_draw (aCons (aVar 0) (aCons (aOp aAdd (aCall aLen (aCons (aVar 4) (aNil))) (aC (.int 1))) (aNil)))) (aGName 6))
  (aAsg (aOp aAdd (aOp aAdd (aSl aCut (aVar 4) aNoPart (aPart (aVar 6))) (aVar 5)) (aSl aCut (aVar 4) (aPart (aVar 6)) aNoPart)) (aGName 4))))
  (aDrop (aMeth "list" aAppend (aVar 2) (aCons (aVar 4) (aNil)))))))
  (aFrz 2 (aRet (aCall aTupleOf (aCons (aVar 2) (aNil))))))
def s_law_other : ASp := aBody 7 a_law_other
def a_law_sentence_by (s_law_sentence_by : ASp) : AS' :=
  aSeq (aAsg (aLstM (aCons (aOp aIx (aVar 2) (aC (.int 0))) (aNil))) (aGName 3))
  (aSeq (aFor (aIT (aSl aCut (aVar 2) (aPart (aC (.int 1))) aNoPart)) (aGName 4)
  (aIfS (aTru (aIsi "str" (aVar 4)))
  (aDrop (aMeth "list" aAppend (aVar 3) (aCons (aCall s_law_by (aCons (aVar 0) (aCons (aVar 1) (aCons (aVar 4) (aNil))))) (aNil))))
  (aIfS (aTru (aIsi "tuple" (aVar 4)))
  (aDrop (aMeth "list" aAppend (aVar 3) (aCons (aCall s_law_sentence_by (aCons (aVar 0) (aCons (aVar 1) (aCons (aVar 4) (aNil))))) (aNil))))
  (aDrop (aMeth "list" aAppend (aVar 3) (aCons (aVar 4) (aNil)))))))
  (aFrz 3 (aRet (aCall aTupleOf (aCons (aVar 3) (aNil))))))
def s_law_sentence_by : Nat → ASp
  | 0 => fun _ _ _ => False
  | n + 1 => aBody 5 (a_law_sentence_by (s_law_sentence_by n))
def a_table_of (W : AX') : AS' :=
  aSeq (aAsg (aAndV (aCall s_is_tongue (aCons (aVar 1) (aNil))) (aOp aEq (aCall aLen (aCons (aVar 1) (aNil))) (aCall aLen (aCons (aVar 0) (aNil))))) (aGName 2))
  (aSeq (aIfS (aOr (aNot (aTru (aVar 2))) (aB (aOp aNe (aLc (aIT (aVar 0)) (aGName 3) (aYes) (aCall (aSortT false) (aCons (aVar 3) (aNil))) [3]) (aLc (aIT (aVar 1)) (aGName 3) (aYes) (aCall (aSortT false) (aCons (aVar 3) (aNil))) [3]))))
  (aRaise W "NoTongue")
  (aNext))
  (aRet (aDictZ false (aCons (aCall s_signs_of (aCons (aVar 0) (aNil))) (aCons (aCall s_signs_of (aCons (aVar 1) (aNil))) (aNil))))))
def s_table_of : ASpX := aBodyX 4 a_table_of
def a_law_plain : AS' :=
  aSeq (aAsg (aMeth "str" aJoin (aC (.str "")) (aCons (aVar 1) (aNil))) (aGName 2))
  (aSeq (aAsg (aCall s_law_draw (aCons (aVar 0) (aCons (aC (.int 8)) (aNil)))) (aGName 3))
  (aSeq (aIfS (aB (aOp aLt (aVar 3) (aC (.int 2))))
  (aSeq (aAsg (aCall s_law_draw (aCons (aVar 0) (aCons (aC (.int 4)) (aNil)))) (aGName 4))
  (aSeq (aAsg (aOp aAdd (aVar 4) (aCall s_law_draw (aCons (aVar 0) (aCons (aC (.int 4)) (aNil))))) (aGName 5))
  (aSeq (aIfS (aB (aOp aEq (aCall s_law_draw (aCons (aVar 0) (aCons (aC (.int 3)) (aNil)))) (aC (.int 0))))
  (aAsg (aC .non) (aGName 5))
  (aNext))
  (aRet (aTup (aCons (aC (.str "long")) (aCons (aVar 4) (aCons (aVar 5) (aNil)))))))))
  (aNext))
  (aSeq (aIfS (aB (aOp aEq (aVar 3) (aC (.int 2))))
  (aRet (aTup (aCons (aC (.str "least")) (aCons (aCall s_law_draw (aCons (aVar 0) (aCons (aCall aLen (aCons (aVar 1) (aNil))) (aNil)))) (aCons (aCall s_law_draw (aCons (aVar 0) (aCons (aC (.int 3)) (aNil)))) (aNil))))))
  (aNext))
  (aSeq (aIfS (aB (aOp aEq (aVar 3) (aC (.int 3))))
  (aSeq (aAsg (aCall s_law_draw (aCons (aVar 0) (aCons (aCall aLen (aCons (aVar 2) (aNil))) (aNil)))) (aGName 6))
  (aSeq (aAsg (aOp aAdd (aOp aIx (aVar 2) (aVar 6)) (aSl aCut (aVar 2) (aPart (aOp aAdd (aVar 6) (aC (.int 1)))) (aPart (aOp aAdd (aOp aAdd (aVar 6) (aC (.int 1))) (aCall s_law_draw (aCons (aVar 0) (aCons (aC (.int 2)) (aNil)))))))) (aGName 7))
  (aRet (aTup (aCons (aC (.str "often")) (aCons (aVar 7) (aCons (aCall s_law_draw (aCons (aVar 0) (aCons (aC (.int 3)) (aNil)))) (aNil))))))))
  (aNext))
  (aSeq (aIfS (aB (aOp aEq (aVar 3) (aC (.int 4))))
  (aRet (aTup (aCons (aC (.str "apart")) (aNil))))
  (aNext))
  (aRet (aTup (aCons (aOp aIx (aLst (aCons (aC (.str "without")) (aCons (aC (.str "begins")) (aCons (aC (.str "ends")) (aNil))))) (aOp aSub (aVar 3) (aC (.int 5)))) (aCons (aCall s_law_text (aCons (aVar 0) (aCons (aVar 1) (aCons (aC (.int 3)) (aNil))))) (aNil))))))))))
def s_law_plain : ASp := aBody 8 a_law_plain
def a_exchanged_word (W : AX') : AS' :=
  aRet (aCall s_text_by (aCons (aCallX W s_table_of (aCons (aVar 0) (aCons (aVar 1) (aNil)))) (aCons (aVar 2) (aNil))))
def s_exchanged_word : ASpX := aBodyX 3 a_exchanged_word
def a_law_sentence (s_law_sentence : ASp) : AS' :=
  aSeq (aAsg (aC (.int 0)) (aGName 3))
  (aSeq (aIfS (aB (aOp aGt (aVar 2) (aC (.int 1))))
  (aAsg (aCall s_law_draw (aCons (aVar 0) (aCons (aC (.int 8)) (aNil)))) (aGName 3))
  (aNext))
  (aSeq (aIfS (aB (aOp aEq (aVar 3) (aC (.int 5))))
  (aRet (aTup (aCons (aC (.str "not")) (aCons (aCall s_law_sentence (aCons (aVar 0) (aCons (aVar 1) (aCons (aOp aSub (aVar 2) (aC (.int 1))) (aNil))))) (aNil)))))
  (aNext))
  (aSeq (aIfS (aB (aOp aGt (aVar 3) (aC (.int 5))))
  (aSeq (aAsg (aCall s_law_sentence (aCons (aVar 0) (aCons (aVar 1) (aCons (aOp aSub (aVar 2) (aC (.int 1))) (aNil))))) (aGName 4))
  (aRet (aTup (aCons (aOp aIx (aLst (aCons (aC (.str "both")) (aCons (aC (.str "either")) (aNil)))) (aOp aSub (aVar 3) (aC (.int 6)))) (aCons (aVar 4) (aCons (aCall s_law_sentence (aCons (aVar 0) (aCons (aVar 1) (aCons (aOp aSub (aVar 2) (aC (.int 1))) (aNil))))) (aNil)))))))
  (aNext))
  (aRet (aCall s_law_plain (aCons (aVar 0) (aCons (aVar 1) (aNil))))))))
def s_law_sentence : Nat → ASp
  | 0 => fun _ _ _ => False
  | n + 1 => aBody 5 (a_law_sentence (s_law_sentence n))
def a_exchanged_rule (W : AX') : AS' :=
  aSeq (aAsg (aCallX W s_table_of (aCons (aOp aIx (aVar 0) (aC (.int 0))) (aCons (aVar 1) (aNil)))) (aGName 2))
  (aRet (aTup (aCons (aOp aIx (aVar 0) (aC (.int 0))) (aCons (aCall aTupleOf (aCons (aLc (aIT (aOp aIx (aVar 0) (aC (.int 1)))) (aGName 3) (aYes) (aCall (s_sentence_by 8) (aCons (aVar 2) (aCons (aVar 3) (aNil)))) [3]) (aNil))) (aNil)))))
def s_exchanged_rule : ASpX := aBodyX 4 a_exchanged_rule
def a_law_heard : AS' :=
  aSeq (aAsg (aLstM (aNil)) (aGName 4))
  (aSeq (aFor (aIR1 (aCons (aC (.int 2)) (aNil))) (aGName 5)
  (aSeq (aAsg (aC .non) (aGName 6))
  (aSeq (aTryA subE (fun W => aIfS (aB (aOp aEq (aVar 5) (aC (.int 0))))
  (aDrop (aCallX W s_exchanged_word (aCons (aVar 0) (aCons (aVar 1) (aCons (aVar 2) (aNil))))))
  (aDrop (aCallX W s_exchanged_rule (aCons (aVar 3) (aCons (aVar 1) (aNil)))))) [(["WordError"], 7, aAsg (aVar 7) (aGName 6))] (fun _ _ _ => False))
  (aDrop (aMeth "list" aAppend (aVar 4) (aCons (aAndV (aOp aNotN (aVar 6) (aC .non)) (aOp aEq (aCall s_law_mark (aCons (aVar 6) (aNil))) (aC (.int 0)))) (aNil)))))))
  (aFrz 4 (aRet (aOp aEq (aVar 4) (aLst (aCons (aC (.bl true)) (aCons (aC (.bl true)) (aNil))))))))
def s_law_heard : ASp := aBody 8 a_law_heard
def a_law_rule : AS' :=
  aSeq (aAsg (aLstM (aNil)) (aGName 3))
  (aSeq (aAsg (aC (.int 1)) (aGName 4))
  (aSeq (aFor (aIR1 (aCons (aCall s_law_draw (aCons (aVar 0) (aCons (aC (.int 6)) (aNil)))) (aNil))) (aGName 5)
  (aSeq (aAsg (aCall (s_law_sentence 8) (aCons (aVar 0) (aCons (aVar 1) (aCons (aC (.int 3)) (aNil))))) (aGName 6))
  (aIfS (aB (aOp aLe (aOp aMul (aVar 4) (aCall (s_law_weight 8) (aCons (aVar 1) (aCons (aVar 6) (aNil))))) (aVar 2)))
  (aSeq (aAsg (aOp aMul (aVar 4) (aCall (s_law_weight 8) (aCons (aVar 1) (aCons (aVar 6) (aNil))))) (aGName 4))
  (aDrop (aMeth "list" aAppend (aVar 3) (aCons (aVar 6) (aNil)))))
  (aNext))))
  (aFrz 3 (aRet (aTup (aCons (aVar 1) (aCons (aCall aTupleOf (aCons (aVar 3) (aNil))) (aNil))))))))
def s_law_rule : ASp := aBody 7 a_law_rule
def a_lawW (W : AX') : AS' :=
  aSeq (aFor (aIR1 (aCons (aC (.int 2)) (aNil))) (aGName 1)
  (aSeq (aAsg (aCall s_law_pen (aCons (aVar 0) (aCons (aVar 1) (aNil)))) (aGName 2))
  (aSeq (aAsg (aCall s_law_tongue (aCons (aVar 2) (aCons (aC (.int 6)) (aNil)))) (aGName 3))
  (aSeq (aAsg (aCall s_law_other (aCons (aVar 2) (aCons (aVar 3) (aNil)))) (aGName 4))
  (aSeq (aAsg (aCall s_law_rule (aCons (aVar 2) (aCons (aVar 3) (aCons (aOp aPow (aC (.int 10)) (aC (.int 9))) (aNil))))) (aGName 5))
  (aSeq (aAsg (aOrV (aSl aCut (aSl aCut (aMeth "str" aJoin (aC (.str "")) (aCons (aVar 3) (aNil))) (aPart (aCall s_law_draw (aCons (aVar 2) (aCons (aC (.int 3)) (aNil))))) aNoPart) aNoPart (aPart (aOp aAdd (aC (.int 1)) (aCall s_law_draw (aCons (aVar 2) (aCons (aC (.int 4)) (aNil))))))) (aOp aIx (aOp aIx (aVar 3) (aC (.int 0))) (aC (.int 0)))) (aGName 6))
  (aSeq (aAsg (aTup (aCons (aC (.str "both")) (aCons (aTup (aCons (aC (.str "not")) (aCons (aTup (aCons (aC (.str "not")) (aCons (aTup (aCons (aC (.str "begins")) (aCons (aVar 6) (aNil)))) (aNil)))) (aNil)))) (aCons (aTup (aCons (aC (.str "either")) (aCons (aTup (aCons (aC (.str "often")) (aCons (aVar 6) (aCons (aC (.int 3)) (aNil))))) (aCons (aTup (aCons (aC (.str "ends")) (aCons (aUn aRevS (aVar 6)) (aNil)))) (aNil))))) (aNil))))) (aGName 7))
  (aSeq (aAsg (aTup (aCons (aVar 3) (aCons (aOp aAdd (aOp aIx (aVar 5) (aC (.int 1))) (aTup (aCons (aVar 7) (aCons (aTup (aCons (aC (.str "often")) (aCons (aUn aRevS (aVar 6)) (aCons (aC (.int 2)) (aNil))))) (aNil))))) (aNil)))) (aGName 5))
  (aSeq (aAsg (aC (.str "")) (aGName 8))
  (aSeq (aFor (aIR1 (aCons (aC (.int 3)) (aNil))) (aGName 9)
  (aSeq (aAsg (aCallX W s_exchanged_word (aCons (aVar 3) (aCons (aVar 4) (aCons (aVar 8) (aNil))))) (aGName 10))
  (aSeq (aIfS (aOr (aNot (aTru (aIsi "str" (aVar 10)))) (aB (aOp aNe (aVar 10) (aCall s_law_by (aCons (aVar 3) (aCons (aVar 4) (aCons (aVar 8) (aNil))))))))
  (aRet (aC (.bl false)))
  (aNext))
  (aSeq (aIfS (aB (aOp aNe (aCallX W s_exchanged_word (aCons (aVar 4) (aCons (aVar 3) (aCons (aVar 10) (aNil))))) (aVar 8)))
  (aRet (aC (.bl false)))
  (aNext))
  (aAsg (aCall s_law_text (aCons (aVar 2) (aCons (aVar 3) (aCons (aOp aIx (aLst (aCons (aC (.int 9)) (aCons (aC (.int 60)) (aNil)))) (aOp aMod (aVar 9) (aC (.int 2)))) (aNil))))) (aGName 8))))))
  (aSeq (aAsg (aTup (aCons (aVar 3) (aCons (aCall aTupleOf (aCons (aLc (aIT (aOp aIx (aVar 5) (aC (.int 1)))) (aGName 12) (aYes) (aCall (s_law_sentence_by 8) (aCons (aVar 3) (aCons (aVar 4) (aCons (aVar 12) (aNil))))) [12]) (aNil))) (aNil)))) (aGName 11))
  (aSeq (aAsg (aCallX W s_exchanged_rule (aCons (aVar 5) (aCons (aVar 4) (aNil)))) (aGName 10))
  (aSeq (aIfS (aOr (aNot (aTru (aIsi "tuple" (aVar 10)))) (aOr (aNot (aTru (aIsi "tuple" (aOp aIx (aVar 10) (aC (.int 1)))))) (aB (aOp aNe (aVar 10) (aVar 11)))))
  (aRet (aC (.bl false)))
  (aNext))
  (aSeq (aIfS (aB (aOp aNe (aCallX W s_exchanged_rule (aCons (aTup (aCons (aVar 4) (aCons (aOp aIx (aVar 10) (aC (.int 1))) (aNil)))) (aCons (aVar 3) (aNil)))) (aTup (aCons (aVar 4) (aCons (aOp aIx (aVar 5) (aC (.int 1))) (aNil))))))
  (aRet (aC (.bl false)))
  (aNext))
  (aSeq (aAsg (aCall s_law_no_tongues (aCons (aVar 3) (aCons (aVar 4) (aNil)))) (aGName 6))
  (aFor (aIR1 (aCons (aC (.int 4)) (aNil))) (aGName 9)
  (aIfS (aNot (aTru (aCall s_law_heard (aCons (aVar 3) (aCons (aOp aIx (aVar 6) (aCall s_law_draw (aCons (aVar 2) (aCons (aCall aLen (aCons (aVar 6) (aNil))) (aNil))))) (aCons (aVar 8) (aCons (aVar 5) (aNil))))))))
  (aRet (aC (.bl false)))
  (aNext))))))))))))))))))
  (aRet (aC (.bl true)))
def a_law : AS' := a_lawW (fun _ _ _ => False)
def s_law : ASp := aBody 13 a_law
end A_k39
namespace A_k39
open PySem L2 AL
/-- so many may still be drawn -/
def PenC (k : Nat) (c : Cell) : Prop := ∃ f g h : Int, c = .lst [.int f, .int g, .int h] ∧ 0 ≤ f ∧ 0 ≤ h ∧ h + (k : Int) ≤ 1099511627776
def Pen (k : Nat) (C : AH) (p : Addr) : Prop := ∃ c, C p = some c ∧ PenC k c
theorem pen_put {k : Nat} {C : AH} {p : Addr} {c : Cell} (h : PenC k c) : Pen k (put C p c) p := ⟨c, put_same, h⟩
theorem Pen.less {k n : Nat} {C : AH} {p : Addr} (h : Pen n C p) (hk : k ≤ n := by omega) : Pen k C p := by
  obtain ⟨c, h1, f, g, u, h2, h3, h4, h5⟩ := h
  exact ⟨c, h1, f, g, u, h2, h3, h4, by omega⟩
theorem Pen.other {k : Nat} {C : AH} {p q : Addr} {c : Cell} (h : Pen k C p) (hn : p ≠ q) : Pen k (put C q c) p := by
  obtain ⟨d, h1, h2⟩ := h
  exact ⟨d, put_other hn h1, h2⟩
theorem Pen.otherD {k : Nat} {C : AH} {p q : Addr} (h : Pen k C p) (hn : p ≠ q) : Pen k (del C q) p := by
  obtain ⟨d, h1, h2⟩ := h
  exact ⟨d, del_other hn h1, h2⟩
theorem draw_ok {n : Nat} {p : Addr} {m : Nat} {C : AH} {P : D → AH → Prop} (hp : Pen (n + 1) C p) (hm : 0 < m) (hm2 : m < 1073741824)
    (k : ∀ c (d : Nat), PenC n c → d < m → P (.int d) (put C p c)) : s_law_draw [.ce p, .int m] C P := by
  have k2 : ∀ c (d : Int), PenC n c → 0 ≤ d → d < m → P (.int d) (put C p c) := by
    intro c d hc h0 h1
    have e : d = ((d.toNat : Nat) : Int) := by omega
    rw [e]
    exact k c d.toNat hc (by omega)
  obtain ⟨_, hC, f, g, u, rfl, hf, hu0, hu⟩ := hp
  unfold s_law_draw a_law_draw
  walk_at "go"
  rw [show [D.int f, D.int g, D.int u].set (Int.toNat 2) (D.int (u + 1)) = [D.int f, D.int g, D.int (u + 1)] from rfl]
  walk_at "go"
  refine g_ifS ?_
  walk_at "go"
  refine g_iteD (fun h => ?_) (fun h => ?_)
  · walk_at "go"
    rw [show [D.int f, D.int g, D.int (u + 1)].set (Int.toNat 0) (D.int (f / (m : Int))) = [D.int (f / (m : Int)), D.int g, D.int (u + 1)] from rfl, put_put]
    exact k2 _ _ ⟨_, _, _, rfl, Int.ediv_nonneg hf (by omega), by omega, by omega⟩ (Int.emod_nonneg _ (by omega)) (Int.emod_lt_of_pos _ (by omega))
  · walk_at "go"
    exact k2 _ _ ⟨_, _, _, rfl, hf, by omega, by omega⟩ (Int.emod_nonneg _ (by omega)) (Int.emod_lt_of_pos _ (by omega))
theorem g_ixR' {ns : List Int} {i : Int} {j : Nat} {C : AH} {P : D → AH → Prop} (e : i = (j : Int)) (hj : j < ns.length) (h : ∀ x, P (.int x) C) : aIx (.scr ns) (.int i) C P := by
  refine g_ixR (d := .int (ns.getD j 0)) ?_ (h _)
  rw [e]
  refine atI_nat' ?_
  rw [List.getElem?_map, List.getElem?_eq_getElem hj]
  simp [List.getD, List.getElem?_eq_getElem hj]
theorem pen_ok {ns : List Int} {j : Nat} {C : AH} {P : D → AH → Prop} (hj : j < 1000) (k : ∀ p c, C p = none → PenC 1000000 c → P (.ce p) (put C p c)) : s_law_pen [.scr ns, .int j] C P := by
  unfold s_law_pen a_law_pen
  walk_at "go"
  refine g_ifJ (fun st C' => ∃ x : Int, st = [some (.scr ns), some (.int j), some (.int x)] ∧ C' = C) (fun N hN => ?_) (fun st C' hw => ?_)
  · refine g_ifS ?_
    walk_at "go"
    refine g_iteD (fun h => ?_) (fun h => ?_)
    · walk_at "go"
      refine g_ixR' (j := j) rfl (by omega) fun x => ?_
      walk_at "go"
      exact hN _ _ ⟨_, rfl, rfl⟩
    · refine g_ifS ?_
      walk_at "go"
      refine g_iteD (fun h => ?_) (fun h => ?_)
      · have hl : 0 < ns.length := by omega
        walk_at "go"
        refine g_ixR' (j := j % ns.length) (by simp) (Nat.mod_lt _ hl) fun x => ?_
        walk_at "go"
        exact hN _ _ ⟨_, rfl, rfl⟩
      · walk_at "go"
        exact hN _ _ ⟨_, rfl, rfl⟩
  · obtain ⟨x, rfl, rfl⟩ := hw
    walk_at "go"
    refine g_ifS ?_
    walk_at "go"
    refine g_iteD (fun h => ?_) (fun h => ?_)
    · walk_at "go"
      intro p hp
      exact k p _ hp ⟨_, _, _, rfl, by omega, by omega, by omega⟩
    · walk_at "go"
      intro p hp
      exact k p _ hp ⟨_, _, _, rfl, by omega, by omega, by omega⟩
end A_k39
namespace A_k39.T
open PySem L2 AL
def sg : D → List Nat | .str x => x.cps.toList | _ => []
def Z (ds : List D) : List Nat := (ds.map sg).flatten
def kndB : D → Bool | .str x => decide (1 ≤ x.length) && decide (x.length ≤ 6) | _ => false
def goodB (c : Nat) : Bool := decide (33 ≤ c) && decide (c ≤ 126) && decide (c ≠ 37)
def tgB : D → Bool
  | .tup ds => decide (1 ≤ ds.length) && decide (ds.length ≤ 4) && ds.all kndB && (decide ((Z ds).length ≤ 12) && decide ((Z ds).Nodup) && (Z ds).all goodB)
  | _ => false
theorem len_toList (z : Str) : z.cps.toList.length = z.length := by rw [Array.length_toList]; rfl
theorem in_one (c : Nat) (z : Str) : (!(Builtin.Str.occurrences z ⟨#[c]⟩ 0 z.length 1).isEmpty) = decide (c ∈ z.cps.toList) := PySem.StrLaws.found_one ..
section
variable {C : AH} {P : D → AH → Prop}
theorem kd_tup {d : D} {n : Nat} (h : okR d n = true) : (∃ z, d = .tup z) ∨ (∃ t, kindOf C d = some t ∧ isT "tuple" t = false ∧ tgB d = false) := by
  cases d with
  | tup i => exact .inl ⟨i, rfl⟩
  | scr _ => simp [okR] at h
  | ce _ => simp [okR] at h
  | _ => exact .inr ⟨_, rfl, rfl, rfl⟩
theorem kd_str {d : D} {n : Nat} (h : okR d n = true) : (∃ z, d = .str z) ∨ (∃ t, kindOf C d = some t ∧ isT "str" t = false ∧ kndB d = false) := by
  cases d with
  | str i => exact .inl ⟨i, rfl⟩
  | scr _ => simp [okR] at h
  | ce _ => simp [okR] at h
  | _ => exact .inr ⟨_, rfl, rfl, rfl⟩
theorem sign_ok {c : Nat} (k : P (.bl (goodB c)) C) : s_is_sign [.str ⟨#[c]⟩] C P := by
  unfold s_is_sign a_is_sign
  walk_at "go"
  refine g_lenS (by show 1 ≤ sizeLine; simp only [sizeLine]; omega) ?_
  walk_at "go"
  refine g_kAnd (fun _ => ?_) (fun e => absurd (of_decide_eq_false e) (fun z => z rfl))
  walk_at "go"
  refine g_ord rfl ?_
  rw [show (⟨#[c]⟩ : Str).cps.getD 0 0 = c from rfl]
  walk_at "go"
  have e33 : decide ((33 : Int) ≤ (c : Int)) = decide (33 ≤ c) := decide_eq_decide.mpr (by omega)
  have e126 : decide ((c : Int) ≤ (126 : Int)) = decide (c ≤ 126) := decide_eq_decide.mpr (by omega)
  rw [e33]
  unfold goodB at k
  refine g_kChain (fun e => ?_) (fun e => ?_)
  · rw [e, Bool.true_and] at k
    walk_at "go"
    rw [e126]
    refine g_kAnd (fun e => ?_) (fun e => ?_)
    · rw [e, Bool.true_and] at k
      walk_at "go"
      refine g_ord rfl ?_
      rw [show (⟨#[c]⟩ : Str).cps.getD 0 0 = c from rfl]
      walk_at "go"
      have e37 : (!decide ((c : Int) = (37 : Int))) = decide (c ≠ 37) := by
        rw [← decide_not]
        exact decide_eq_decide.mpr (by omega)
      rw [e37]
      exact k
    · rw [e, Bool.false_and] at k
      exact k
  · rw [e, Bool.false_and, Bool.false_and] at k
    exact k
theorem snocRec {M : List Str → Prop} (h0 : M []) (h1 : ∀ xs v, M xs → M (xs ++ [v])) (xs : List Str) : M xs := by
  have : ∀ ys : List Str, M ys.reverse := fun ys => by
    induction ys with
    | nil => exact h0
    | cons v ys ih => rw [List.reverse_cons]; exact h1 _ _ ih
  have h := this xs.reverse
  rwa [List.reverse_reverse] at h
theorem dd_any (xs : List Str) (k : Str) : (dd xs).any (· == k) = decide (k ∈ xs) := by
  refine snocRec (M := fun xs => (dd xs).any (· == k) = decide (k ∈ xs)) rfl (fun xs v ih => ?_) xs
  rw [dd_snoc, ddS_any, ih]
  simp
theorem dd_nodup (xs : List Str) : decide ((dd xs).length < xs.length) = !decide xs.Nodup := by
  have : (dd xs).length = xs.length ↔ xs.Nodup := by
    refine snocRec (M := fun xs => (dd xs).length = xs.length ↔ xs.Nodup) (by simp [dd]) (fun xs v ih => ?_) xs
    rw [dd_snoc, ddS_len, dd_any, List.length_append, List.nodup_append]
    have := dd_le xs
    by_cases hv : v ∈ xs
    · rw [if_pos (decide_eq_true hv)]
      constructor
      · intro h; simp at h; omega
      · rintro ⟨_, _, h⟩
        exact absurd rfl (h v hv v (by simp))
    · rw [if_neg (by simpa using hv)]
      constructor
      · intro h
        simp at h
        refine ⟨ih.mp h, by simp, ?_⟩
        intro a ha b hb e
        have : b = v := by simpa using hb
        exact hv (by rw [← this, ← e]; exact ha)
      · rintro ⟨h, _, _⟩
        rw [ih.mpr h]; rfl
  have h2 := dd_le xs
  rw [← decide_not]
  exact decide_eq_decide.mpr ⟨fun h e => by rw [this.mpr e] at h; omega, fun h => by
    rcases Nat.lt_or_ge (dd xs).length xs.length with z | z
    · exact z
    · exact absurd (this.mp (by omega)) h⟩
theorem sgS_nodup (z : Str) : (sgS z).Nodup ↔ z.cps.toList.Nodup := by
  unfold sgS
  refine ⟨fun h => ?_, fun h => ?_⟩
  · exact (List.pairwise_map.mp h).imp fun hne e => hne (by rw [e])
  · refine List.pairwise_map.mpr (h.imp fun hne e => hne ?_)
    have := congrArg (fun z : Str => z.cps.toList) e
    simpa using this
theorem blsD_mapD {f : D → Bool} : ∀ l : List D, blsD (l.map fun c => D.bl (f c)) = some (l.map f)
  | [] => rfl
  | a :: l => by
    show (blsD (l.map fun c => D.bl (f c))).map (f a :: ·) = _
    rw [blsD_mapD l]
    rfl
theorem knd_strs : ∀ {ds : List D}, ds.all kndB = true → ∃ xs : List Str, ds = strsL xs ∧ ∀ x ∈ xs, x.length ≤ 6
  | [], _ => ⟨[], rfl, by simp⟩
  | d :: ds, h => by
    rw [List.all_cons, Bool.and_eq_true] at h
    obtain ⟨xs, rfl, hx⟩ := knd_strs h.2
    cases d with
    | str x =>
      refine ⟨x :: xs, rfl, fun y hy => ?_⟩
      rcases List.mem_cons.mp hy with rfl | hy
      · have := h.1; simp only [kndB, Bool.and_eq_true, decide_eq_true_eq] at this; exact this.2
      · exact hx y hy
    | _ => exact absurd h.1 (by simp [kndB])
theorem Z_strs (xs : List Str) : Z (strsL xs) = (Txt.join "" xs).cps.toList := by
  rw [join_toList]
  unfold Z strsL
  rw [List.map_map]
  rfl
theorem blks_mem {ds : List D} : ∀ d ∈ ds, blk d ≤ blks ds := by
  induction ds with
  | nil => intro d h; cases h
  | cons e ds ih =>
    intro d h
    rcases List.mem_cons.mp h with rfl | h
    · simp only [blks]; omega
    · have := ih d h; simp only [blks]; omega
theorem sum6 : ∀ {xs : List Str}, (∀ x ∈ xs, x.length ≤ 6) → (xs.map (·.length)).sum ≤ 6 * xs.length
  | [], _ => Nat.zero_le _
  | x :: xs, h => by
    have h1 := h x List.mem_cons_self
    have h2 := sum6 fun y hy => h y (List.mem_cons_of_mem _ hy)
    rw [List.map_cons, List.sum_cons, List.length_cons]
    omega
theorem mem_ok {ds : List D} {n : Nat} (hd : okR (.tup ds) n = true) (hb : blk (.tup ds) ≤ 8000) : ∀ e ∈ ds, (∃ m, okR e m = true) ∧ blk e ≤ 8000 := by
  intro e he
  refine ⟨?_, Nat.le_trans (blks_mem e he) hb⟩
  cases n with
  | zero => simp [okR] at hd
  | succ m => simp only [okR] at hd; exact ⟨m, okRs_all.mp hd e he⟩
theorem is_tongue_ok {d : D} {n : Nat} (hd : okR d n = true) (hb : blk d ≤ 8000) (k : P (.bl (tgB d)) C) : s_is_tongue [d] C P := by
  unfold s_is_tongue a_is_tongue
  rcases kd_tup (C := C) hd with ⟨ds, rfl⟩ | ⟨t, h1, h2, h3⟩
  · have hds := mem_ok hd hb
    have hk : tgB (.tup ds) = (decide (1 ≤ ds.length) && decide (ds.length ≤ 4) && ds.all kndB && (decide ((Z ds).length ≤ 12) && decide ((Z ds).Nodup) && (Z ds).all goodB)) := rfl
    rw [hk] at k
    by_cases hl : 1 ≤ ds.length ∧ ds.length ≤ 4
    · rw [decide_eq_true hl.1, decide_eq_true hl.2, Bool.true_and, Bool.true_and] at k
      walk_at "go"
      refine g_ifF (fun K hK => ?_) ?_
      · walk_at "go"
        rw [show isT "tuple" "tuple" = true from rfl, show (!true) = false from rfl]
        walk_at "go"
        refine g_kChain (fun e => ?_) (fun e => ?_)
        · walk_at "go"
          rw [show decide ((ds.length : Int) ≤ 4) = true from decide_eq_true (by omega)]
          exact hK
        · exact absurd (of_decide_eq_false e) (by omega)
      walk_at "go"
      by_cases ha : ds.all kndB = true
      · rw [ha, Bool.true_and] at k
        obtain ⟨xs, rfl, hx6⟩ := knd_strs ha
        have hxl : xs.length ≤ 4 := by have := hl.2; rw [List.length_map] at this; exact this
        have hs6 := sum6 hx6
        rw [Z_strs] at k
        refine g_ifF (fun K hK => ?_) ?_
        · walk_at "go"
          refine g_kLcMap (fun d => .bl (kndB d)) (by rw [List.length_map]; simp only [sizeLine]; omega) (fun d hd' R hR => ?_) ?_
          · obtain ⟨x, hx, rfl⟩ := List.mem_map.mp hd'
            have h6 := hx6 x hx
            walk_at "go"
            rw [show isT "str" "str" = true from rfl]
            refine g_kAnd (fun _ => ?_) (fun e => by cases e)
            walk_at "go"
            refine g_lenS (by simp only [sizeLine]; omega) ?_
            walk_at "go"
            have e1 : kndB (.str x) = (decide (1 ≤ x.length) && decide (x.length ≤ 6)) := rfl
            rw [e1] at hR
            have c1 : decide ((1 : Int) ≤ (x.length : Int)) = decide (1 ≤ x.length) := decide_eq_decide.mpr (by omega)
            have c2 : decide ((x.length : Int) ≤ 6) = decide (x.length ≤ 6) := decide_eq_decide.mpr (by omega)
            rw [c1]
            refine g_kChain (fun e => ?_) (fun e => ?_)
            · rw [e, Bool.true_and] at hR
              walk_at "go"
              rw [c2]
              exact hR
            · rw [e, Bool.false_and] at hR
              exact hR
          walk_at "go"
          refine g_all (blsD_mapD _) ?_
          rw [List.all_map]
          walk_at "go"
          rw [show (strsL xs).all (id ∘ kndB) = (strsL xs).all kndB from rfl, ha]
          exact hK
        walk_at "go"
        refine g_joinET (by omega) ?_
        have hjl : (Txt.join "" xs).length ≤ 24 := by rw [join_len]; omega
        generalize Txt.join "" xs = z at hjl k
        walk_at "go"
        refine g_ifS ?_
        walk_at "go"
        refine g_lenS (by simp only [sizeLine]; omega) ?_
        walk_at "go"
        rw [show z.cps.toList.length = z.length from len_toList z] at k
        by_cases h12 : z.length ≤ 12
        · rw [decide_eq_true h12, Bool.true_and] at k
          rw [show decide ((z.length : Int) > 12) = false from decide_eq_false (by omega)]
          walk_at "go"
          refine g_kLenSet (by omega) ?_
          walk_at "go"
          refine g_lenS (by simp only [sizeLine]; omega) ?_
          walk_at "go"
          have e1 : decide (((dd (sgS z)).length : Int) < (z.length : Int)) = !decide (z.cps.toList.Nodup) := by
            rw [show decide (((dd (sgS z)).length : Int) < (z.length : Int)) = decide ((dd (sgS z)).length < (sgS z).length) from decide_eq_decide.mpr (by rw [sgS_len]; omega), dd_nodup]
            rw [decide_eq_decide.mpr (sgS_nodup z)]
          rw [e1]
          cases e2 : decide (z.cps.toList.Nodup) with
          | true =>
            rw [e2, Bool.true_and] at k
            rw [show (!true) = false from rfl]
            walk_at "go"
            refine g_kLcMap (fun d => match d with | .str y => .bl (goodB (y.cps.getD 0 0)) | d => d) ?_ (fun d hd R hR => ?_) ?_
            · unfold signs; rw [List.length_map, len_toList]; simp only [sizeLine]; omega
            · obtain ⟨c, hc, rfl⟩ := List.mem_map.mp (show d ∈ z.cps.toList.map fun c => D.str ⟨#[c]⟩ from hd)
              walk_at "go"
              exact sign_ok hR
            have e2 : (signs z).map (fun d => match d with | .str y => .bl (goodB (y.cps.getD 0 0)) | d => d) = (z.cps.toList.map fun c => c).map fun c => D.bl (goodB c) := by
              unfold signs
              rw [List.map_map, List.map_map]
              rfl
            rw [e2, List.map_id']
            walk_at "go"
            have e3 : blsD (z.cps.toList.map fun c => D.bl (goodB c)) = some (z.cps.toList.map goodB) := by
              generalize z.cps.toList = l
              induction l with
              | nil => rfl
              | cons a l ih =>
                show (blsD (l.map fun c => D.bl (goodB c))).map (goodB a :: ·) = _
                rw [ih]
                rfl
            refine g_all e3 ?_
            rw [List.all_map]
            exact k
          | false =>
            rw [e2, Bool.false_and] at k
            rw [show (!false) = true from rfl]
            walk_at "go"
            exact k
        · rw [decide_eq_false h12, Bool.false_and, Bool.false_and] at k
          rw [show decide ((z.length : Int) > 12) = true from decide_eq_true (by omega)]
          walk_at "go"
          exact k
      · have ha' : ds.all kndB = false := by cases e : ds.all kndB <;> simp_all
        rw [ha', Bool.false_and] at k
        refine g_ifT (fun K hK => ?_) ?_
        · walk_at "go"
          refine g_kLcMap (fun d => .bl (kndB d)) (by simp only [sizeLine]; omega) (fun d hd' R hR => ?_) ?_
          · obtain ⟨⟨m, hm⟩, hbd⟩ := hds d hd'
            walk_at "go"
            rcases kd_str (C := C) hm with ⟨x, rfl⟩ | ⟨t, h1, h2, h3⟩
            · have hxl : x.length ≤ 8000 := by simpa [blk] using hbd
              walk_at "go"
              rw [show isT "str" "str" = true from rfl]
              refine g_kAnd (fun _ => ?_) (fun e => by cases e)
              walk_at "go"
              refine g_lenS (by simp only [sizeLine]; omega) ?_
              walk_at "go"
              have e1 : kndB (.str x) = (decide (1 ≤ x.length) && decide (x.length ≤ 6)) := rfl
              rw [e1] at hR
              have c1 : decide ((1 : Int) ≤ (x.length : Int)) = decide (1 ≤ x.length) := decide_eq_decide.mpr (by omega)
              have c2 : decide ((x.length : Int) ≤ 6) = decide (x.length ≤ 6) := decide_eq_decide.mpr (by omega)
              rw [c1]
              refine g_kChain (fun e => ?_) (fun e => ?_)
              · rw [e, Bool.true_and] at hR
                walk_at "go"
                rw [c2]
                exact hR
              · rw [e, Bool.false_and] at hR
                exact hR
            · rw [h3] at hR
              refine g_kIsi h1 ?_
              rw [h2]
              refine g_kAnd (fun e => by cases e) (fun _ => ?_)
              exact hR
          walk_at "go"
          refine g_all (blsD_mapD _) ?_
          rw [List.all_map]
          walk_at "go"
          rw [show ds.all (id ∘ kndB) = ds.all kndB from rfl, ha']
          exact hK
        walk_at "go"
        exact k
    · have hf : (decide (1 ≤ ds.length) && decide (ds.length ≤ 4)) = false := by
        rw [← Bool.decide_and]
        exact decide_eq_false hl
      rw [hf, Bool.false_and, Bool.false_and] at k
      walk_at "go"
      refine g_ifT (fun K hK => ?_) ?_
      · walk_at "go"
        rw [show isT "tuple" "tuple" = true from rfl, show (!true) = false from rfl]
        walk_at "go"
        refine g_kChain (fun e => ?_) (fun e => ?_)
        · have := of_decide_eq_true e
          walk_at "go"
          rw [show decide ((ds.length : Int) ≤ 4) = false from decide_eq_false (by omega)]
          exact hK
        · walk_at "go"
          exact hK
      walk_at "go"
      exact k
  · rw [h3] at k
    walk_at "go"
    refine g_ifT (fun K hK => ?_) ?_
    · walk_at "go"
      refine g_kIsi h1 ?_
      rw [h2]
      walk_at "go"
      exact hK
    walk_at "go"
    exact k
end
end A_k39.T
namespace A_k39
open PySem L2 AL
def Tg (tg : List Str) : Prop := A_k39.T.tgB (.tup (strsL tg)) = true
def zs (tg : List Str) : List Nat := (Txt.join "" tg).cps.toList
def intsN (L : List Nat) : List Int := L.map fun (n : Nat) => (n : Int)
theorem nats_ints (L : List Nat) : natsD L = (intsN L).map D.int := by unfold natsD intsN; rw [List.map_map]; rfl
theorem ints_sum (L : List Nat) : (intsN L).sum = (L.sum : Nat) := by
  induction L with
  | nil => rfl
  | cons a L ih => show (a : Int) + (intsN L).sum = _; rw [ih, List.sum_cons]; omega
theorem intsD_ints : ∀ L : List Int, intsD (L.map D.int) = some L
  | [] => rfl
  | a :: L => by
    show (intsD (L.map D.int)).map (a :: ·) = _
    rw [intsD_ints L]
    rfl
section
variable {C : AH} {P : D → AH → Prop}
theorem g_sumX {d : D} {L : List Nat} (h : asLr C d = some (natsD L)) (k : P (.int (L.sum : Nat)) C) : aSum [d] C P := by
  show (match (asLr C d).bind intsD with | some bs => P (.int bs.sum) C | none => False)
  rw [h]
  show (match intsD (natsD L) with | some bs => P (.int bs.sum) C | none => False)
  rw [nats_ints, intsD_ints]
  show P (.int (intsN L).sum) C
  rw [ints_sum]
  exact k
theorem g_maxX {d : D} {L : List Nat} (h : asLr C d = some (natsD L)) (hl : 0 < L.length) (k : ∀ m, m ∈ L → (∀ y ∈ L, y ≤ m) → P (.int (m : Nat)) C) : aMaxL [d] C P := by
  refine ⟨natsD L, intsN L, h, nats_ints L, by unfold intsN; rw [List.length_map]; exact hl, fun m hm hmax => ?_⟩
  obtain ⟨n, hn, rfl⟩ := List.mem_map.mp hm
  refine k n hn fun y hy => ?_
  have := hmax y (List.mem_map.mpr ⟨y, hy, rfl⟩)
  omega
theorem g_idxX {d : D} {L : List Nat} {m : Nat} (h : asLr C d = some (natsD L)) (hm : m ∈ L) (k : ∀ j, L[j]? = some m → P (.int (j : Nat)) C) : aLindex d [.int (m : Nat)] C P := by
  refine ⟨natsD L, intsN L, h, nats_ints L, List.mem_map.mpr ⟨m, hm, rfl⟩, fun j hj => ?_⟩
  unfold intsN at hj
  rw [List.getElem?_map] at hj
  cases e : L[j]? with
  | none => rw [e] at hj; cases hj
  | some n =>
    rw [e] at hj
    have : ((n : Nat) : Int) = (m : Int) := by simpa using hj
    exact k j (by rw [e]; congr 1; omega)
theorem sum_set : ∀ {L : List Nat} {j m x : Nat}, L[j]? = some m → (L.set j x).sum + m = L.sum + x
  | a :: L, 0, m, x, h => by
    simp at h
    subst h
    simp
    omega
  | a :: L, j + 1, m, x, h => by
    have := sum_set (L := L) (j := j) (m := m) (x := x) (by simpa using h)
    simp
    omega
theorem sum_few {b : Nat} : ∀ {L : List Nat}, (∀ x ∈ L, x ≤ b) → L.sum ≤ b * L.length
  | [], _ => by simp
  | a :: L, h => by
    have := sum_few (L := L) fun x hx => h x (List.mem_cons_of_mem _ hx)
    have := h a List.mem_cons_self
    rw [List.sum_cons, List.length_cons, Nat.mul_succ]
    omega
theorem sum_pos : ∀ {L : List Nat}, (∀ x ∈ L, 1 ≤ x) → L.length ≤ L.sum
  | [], _ => by simp
  | a :: L, h => by
    have := sum_pos (L := L) fun x hx => h x (List.mem_cons_of_mem _ hx)
    have := h a List.mem_cons_self
    rw [List.sum_cons, List.length_cons]
    omega
def lets : Str := "!\"#$&'()*+,-./0123456789:;<=>?\x40ABCDEFGHIJKLMNOPQRSTUVWXYZ[\\]^_`abcdefghijklmnopqrstuvwxyz{|}~"
theorem lets_ok : (decide (lets.length = 93) && lets.cps.toList.all A_k39.T.goodB) = true := by decide +kernel
theorem lets_nd : lets.cps.toList.Nodup := by decide +kernel
def Good (z : Str) : Prop := ∀ c ∈ z.cps.toList, A_k39.T.goodB c = true
theorem app_toList (a b : Str) : (a ++ b).cps.toList = a.cps.toList ++ b.cps.toList := TL.tl_append a b
theorem app_len (a b : Str) : (a ++ b).length = a.length + b.length := by rw [← AL.len_toList, app_toList, List.length_append, AL.len_toList, AL.len_toList]
theorem Good.app {a b : Str} (h : Good a) (g : Good b) : Good (a ++ b) := fun c hc => by
  rw [app_toList] at hc
  rcases List.mem_append.mp hc with q | q
  · exact h c q
  · exact g c q
theorem cutS_l (x : Str) (lo hi : Option Int) : (cutS x lo hi).cps.toList = (x.cps.toList.drop (HT.sIx x.length 0 lo)).take (HT.sIx x.length x.length hi - HT.sIx x.length 0 lo) := rfl
theorem Good.cut {a : Str} {lo hi : Option Int} (h : Good a) : Good (cutS a lo hi) := fun c hc => by
  rw [cutS_l] at hc
  exact h c (List.mem_of_mem_drop (List.mem_of_mem_take hc))
theorem cutS_take (x : Str) (j : Nat) : (cutS x none (some (j : Int))).cps.toList = x.cps.toList.take j := by
  rw [cutS_l, HT.sIx_nat]
  rw [show HT.sIx x.length 0 none = 0 from rfl, List.drop_zero, Nat.sub_zero, ← AL.len_toList]
  by_cases h : j ≤ x.cps.toList.length
  · rw [Nat.min_eq_left h]
  · rw [Nat.min_eq_right (by omega), List.take_of_length_le (Nat.le_refl _), List.take_of_length_le (by omega)]
theorem cutS_drop (x : Str) (j : Nat) : (cutS x (some (j : Int)) none).cps.toList = x.cps.toList.drop j := by
  rw [cutS_l, HT.sIx_nat]
  rw [show HT.sIx x.length x.length none = x.length from rfl, ← AL.len_toList]
  by_cases h : j ≤ x.cps.toList.length
  · rw [Nat.min_eq_left h, List.take_of_length_le (by rw [List.length_drop]; omega)]
  · rw [Nat.min_eq_right (by omega), List.drop_eq_nil_of_le (Nat.le_refl _), List.drop_eq_nil_of_le (show x.cps.toList.length ≤ j by omega)]
    simp
def cs (z : Str) : List Nat := z.cps.toList
def oneS (c : Nat) : Str := ⟨#[c]⟩
theorem g_ixO {z : Str} {i : Nat} (hl : z.length ≤ 10000) (hi : i < z.length) (k : ∀ c, c ∈ z.cps.toList → P (.str (oneS c)) C) : aIx (.str z) (.int (i : Int)) C P := by
  have hi' : i < z.cps.toList.length := by rw [AL.len_toList]; exact hi
  show z.length ≤ sizeLine ∧ (match atI z.cps.toList (i : Int) with | some c => P (.str ⟨#[c]⟩) C | none => False)
  refine ⟨by simp only [sizeLine]; omega, ?_⟩
  rw [atI_nat' (List.getElem?_eq_getElem hi')]
  exact k _ (List.getElem_mem hi')
theorem g_ixO2 {z : Str} {i : Nat} (hl : z.length ≤ 10000) (hi : i < z.length) (k : ∀ c, c ∈ z.cps.toList → z.cps.toList[i]? = some c → P (.str (oneS c)) C) : aIx (.str z) (.int (i : Int)) C P := by
  have hi' : i < z.cps.toList.length := by rw [AL.len_toList]; exact hi
  show z.length ≤ sizeLine ∧ (match atI z.cps.toList (i : Int) with | some c => P (.str ⟨#[c]⟩) C | none => False)
  refine ⟨by simp only [sizeLine]; omega, ?_⟩
  rw [atI_nat' (List.getElem?_eq_getElem hi')]
  exact k _ (List.getElem_mem hi') (List.getElem?_eq_getElem hi')
theorem g_cutSt {x : Str} {lo hi : Option Int} (hl : x.length ≤ 10000) (k : P (.str (cutS x lo hi)) C) : aCut (.str x) lo hi C P := ⟨by simp only [sizeLine]; omega, k⟩
structure Szs (L : List Nat) : Prop where
  one : 1 ≤ L.length
  few : L.length ≤ 4
  pos : ∀ x ∈ L, 1 ≤ x
  six : ∀ x ∈ L, x ≤ 6
theorem lets_eq : ("!\"#$&'()*+,-./0123456789:;<=>?\x40ABCDEFGHIJKLMNOPQRSTUVWXYZ[\\]^_`abcdefghijklmnopqrstuvwxyz{|}~" : Str) = lets := rfl
theorem g_frzOX {i : Nat} {x : D} {ds : List D} {a : AS'} {E : AEnds} {s : ASt} {C : AH} (h0 : s[i]? = some (some x)) (h : (∃ p, x = .ce p ∧ C p = some (.lst ds)) ∨ x = .lst ds) (k : ∀ C', ((C' = C ∧ x = .lst ds) ∨ ∃ p, x = .ce p ∧ C' = AL.del C p) → a E (s.set i (some (.lst ds))) C') : aFrzO i a E s C := by
  rcases h with ⟨p, rfl, hC⟩ | rfl
  · exact g_frzOL h0 hC (k _ (.inr ⟨p, rfl, rfl⟩))
  · refine g_frzON h0 (fun p e => nomatch e) ?_
    have := k C (.inl ⟨rfl, rfl⟩)
    have e : s.set i (some (.lst ds)) = s := by
      refine List.ext_getElem? fun j => ?_
      rw [List.getElem?_set]
      split
      · rename_i e
        subst e
        rw [h0, if_pos (List.getElem?_eq_some_iff.mp h0).1]
      · rfl
    rw [e] at this
    exact this
theorem szs_far : ∀ t : Nat, t < 4 → ∃ L, ([[6, 6], [4, 4, 4], [3, 3, 3, 3], [6, 1, 5]] : List (List Nat))[t]? = some L ∧ Szs L ∧ L.sum ≤ 12 := by
  intro t ht
  match t, ht with
  | 0, _ => exact ⟨_, rfl, ⟨by decide, by decide, by decide, by decide⟩, by decide⟩
  | 1, _ => exact ⟨_, rfl, ⟨by decide, by decide, by decide, by decide⟩, by decide⟩
  | 2, _ => exact ⟨_, rfl, ⟨by decide, by decide, by decide, by decide⟩, by decide⟩
  | 3, _ => exact ⟨_, rfl, ⟨by decide, by decide, by decide, by decide⟩, by decide⟩
theorem tg_of {ys : List Str} {L : List Nat} (hS : Szs L) (hl : ys.map (·.length) = L) (hs : L.sum ≤ 12) (hg : ∀ y ∈ ys, Good y) (hn : ((ys.map cs).flatten).Nodup) : Tg ys := by
  have e1 : (strsL ys).length = L.length := by rw [← hl]; simp [strsL]
  have hZ : A_k39.T.Z (strsL ys) = (ys.map cs).flatten := by rw [A_k39.T.Z_strs, join_toList]; rfl
  have hZl : (A_k39.T.Z (strsL ys)).length ≤ 12 := by rw [A_k39.T.Z_strs, AL.len_toList, join_len, hl]; exact hs
  have hk : (strsL ys).all A_k39.T.kndB = true := by
    rw [List.all_eq_true]
    intro d hd
    obtain ⟨y, hy, rfl⟩ := List.mem_map.mp hd
    have hm : y.length ∈ L := by rw [← hl]; exact List.mem_map.mpr ⟨y, hy, rfl⟩
    have h1 := hS.pos _ hm
    have h2 := hS.six _ hm
    simp only [A_k39.T.kndB, Bool.and_eq_true, decide_eq_true_eq]
    exact ⟨h1, h2⟩
  have hga : (A_k39.T.Z (strsL ys)).all A_k39.T.goodB = true := by
    rw [hZ, List.all_eq_true]
    intro c hc
    obtain ⟨l, hl, hc⟩ := List.mem_flatten.mp hc
    obtain ⟨y, hy, rfl⟩ := List.mem_map.mp hl
    exact hg y hy c hc
  show (decide (1 ≤ (strsL ys).length) && decide ((strsL ys).length ≤ 4) && (strsL ys).all A_k39.T.kndB && (decide ((A_k39.T.Z (strsL ys)).length ≤ 12) && decide ((A_k39.T.Z (strsL ys)).Nodup) && (A_k39.T.Z (strsL ys)).all A_k39.T.goodB)) = true
  have h1 := hS.one
  have h4 := hS.few
  rw [decide_eq_true (show 1 ≤ (strsL ys).length by omega), decide_eq_true (show (strsL ys).length ≤ 4 by omega), hk, decide_eq_true hZl, decide_eq_true (by rw [hZ]; exact hn), hga]
  rfl
theorem tongue_ok {n : Nat} {p : Addr} (hp : Pen (n + 32) C p) (k : ∀ tg C', Tg tg → Pen n C' p → Oth p C C' → P (.tup (strsL tg)) C') : s_law_tongue [.ce p, .int 6] C P := by
  unfold s_law_tongue a_law_tongue
  rw [lets_eq]
  have hlk := lets_ok
  have hln := lets_nd
  obtain ⟨lets0, hl0⟩ : ∃ l, l = lets := ⟨_, rfl⟩
  rw [← hl0] at hlk hln ⊢
  clear hl0
  walk_at "go"
  refine draw_ok (n := n + 31) (m := 4) hp (by omega) (by omega) fun c d hc hd => ?_
  have hP := pen_put (C := C) (p := p) hc
  have hO := (Oth.refl p C).pen (c := c)
  generalize put C p c = C1 at hP hO ⊢
  have e1 : (1 : Int) + (d : Int) = ((d + 1 : Nat) : Int) := by omega
  walk_at "go"
  rw [e1]
  generalize ham : d + 1 = am
  have ham4 : 1 ≤ am ∧ am ≤ 4 := by omega
  have hrl : (rangeD 0 (am : Int).toNat).length = am := by rw [rangeD_len]; rfl
  refine g_kLc (fun i acc C9 => ∃ L : List Nat, L.length = i ∧ acc = natsD L ∧ (∀ x ∈ L, 1 ≤ x ∧ x ≤ 6) ∧ Pen (n + 27 + (4 - i)) C9 p ∧ Oth p C C9) (by rw [hrl]; simp only [sizeLine]; omega) ⟨[], rfl, rfl, by simp, hP, hO⟩ (fun i d acc C9 hi hw => ?_) (fun acc C9 hw => ?_)
  · have hi2 : i < am := by have := (List.getElem?_eq_some_iff.mp hi).1; rw [hrl] at this; exact this
    obtain ⟨L, hL, rfl, hx, hP9, hO9⟩ := hw
    walk_at "go"
    refine draw_ok (n := n + 27 + (4 - (i + 1))) (m := 6) (hP9.less (k := n + 27 + (4 - (i + 1)) + 1)) (by omega) (by omega) fun c u hc hu => ?_
    walk_at "go"
    refine ⟨L ++ [u + 1], by simp [hL], ?_, fun x hx' => ?_, pen_put hc, hO9.pen⟩
    · unfold natsD
      rw [List.map_append, show (1 : Int) + (u : Int) = ((u + 1 : Nat) : Int) by omega]
      rfl
    · rcases List.mem_append.mp hx' with h | h
      · exact hx x h
      · rw [List.mem_singleton.mp h]; omega
  obtain ⟨L, hL, rfl, hx, hP9, hO9⟩ := hw
  rw [hrl] at hL
  intro g hg
  have hpg : p ≠ g := by obtain ⟨_, h, _⟩ := hP9; exact ne_cell h hg
  have hg0 : C g = none := hO9.none hpg.symm hg
  have hP2 := (hP9.less (k := n + 27)).other (c := .lst (natsD L)) hpg
  have hO2 := hO9.put (c := .lst (natsD L)) hg0
  have hCg : (put C9 g (.lst (natsD L))) g = some (.lst (natsD L)) := put_same
  generalize put C9 g (.lst (natsD L)) = C2 at hP2 hO2 hCg ⊢
  have hS : Szs L := ⟨by omega, by omega, fun x h => (hx x h).1, fun x h => Nat.le_trans (hx x h).2 (by omega)⟩
  walk_at "go"
  refine g_ifJ (fun st C' => ∃ (L : List Nat) (x5 : D), Szs L ∧ ((x5 = .ce g ∧ C' g = some (.lst (natsD L))) ∨ (x5 = .lst (natsD L) ∧ L.sum ≤ 12)) ∧ Pen (n + 25) C' p ∧ Oth p C C' ∧ st = [some (.ce p), some (.int 6), some (.str lets0), some (.int am), none, some x5, none, none, none, none]) (fun N hN => ?_) (fun st C' hw => ?_)
  · refine g_ifS ?_
    walk_at "go"
    refine g_iteD (fun _ => ?_) (fun h => absurd rfl h)
    walk_at "go"
    refine draw_ok (n := n + 26) (m := 6) hP2 (by omega) (by omega) fun c d hc hd => ?_
    have hP3 := pen_put (C := C2) (p := p) hc
    have hO3 := hO2.pen (c := c)
    have hCg3 := put_other (d := c) hpg.symm hCg
    generalize put C2 p c = C3 at hP3 hO3 hCg3
    walk_at "go"
    refine g_iteD (fun _ => ?_) (fun _ => ?_)
    · walk_at "go"
      refine draw_ok (n := n + 25) (m := 4) hP3 (by omega) (by omega) fun c t hc ht => ?_
      have hP4 := pen_put (C := C3) (p := p) hc
      have hO4 := hO3.pen (c := c)
      generalize put C3 p c = C4 at hP4 hO4
      obtain ⟨L, e, hL1, hL2⟩ := szs_far t ht
      refine g_ixL (d := .lst (natsD L)) (atI_nat' ?_) ?_
      · have : (([[6, 6], [4, 4, 4], [3, 3, 3, 3], [6, 1, 5]] : List (List Nat)).map fun l => D.lst (natsD l))[t]? = some (.lst (natsD L)) := by rw [List.getElem?_map, e]; rfl
        exact this
      walk_at "go"
      exact hN _ _ ⟨L, _, hL1, .inr ⟨rfl, hL2⟩, hP4, hO4, rfl⟩
    · walk_at "go"
      exact hN _ _ ⟨L, _, hS, .inl ⟨rfl, hCg3⟩, hP3.less, hO3, rfl⟩
  clear hS hCg hP2 hO2 hx hL hP9 hO9
  obtain ⟨L, x5, hS, hx5, hP2, hO2, rfl⟩ := hw
  walk_at "go"
  refine g_while (fun y st C' => ∃ (L : List Nat) (x5 : D), L.sum = y ∧ Szs L ∧ ((x5 = .ce g ∧ C' g = some (.lst (natsD L))) ∨ (x5 = .lst (natsD L) ∧ L.sum ≤ 12)) ∧ Pen (n + 25) C' p ∧ Oth p C C' ∧ st = [some (.ce p), some (.int 6), some (.str lets0), some (.int am), none, some x5, none, none, none, none]) L.sum ⟨L, x5, rfl, hS, hx5, hP2, hO2, rfl⟩ (fun y st C' hw => ?_)
  clear hS hx5 hP2 hO2
  obtain ⟨L, x5, rfl, hS, hx5, hP2, hO2, rfl⟩ := hw
  have hN : asLr C' x5 = some (natsD L) := by
    rcases hx5 with ⟨rfl, hCg⟩ | ⟨rfl, _⟩
    · simp only [asLr, asL, hCg]
    · rfl
  walk_at "go"
  refine g_sumX hN ?_
  walk_at "go"
  refine g_iteD (fun h => ?_) (fun h => ?_)
  · have hgt : 12 < L.sum := by omega
    rcases hx5 with ⟨rfl, hCg⟩ | ⟨_, h12⟩
    rotate_left
    · omega
    have h1 := hS.one
    walk_at "go"
    refine g_maxX hN (by omega) fun m1 hm hmax => ?_
    walk_at "go"
    refine g_maxX hN (by omega) fun m2 hm2 hmax2 => ?_
    walk_at "go"
    have e : m2 = m1 := Nat.le_antisymm (hmax _ hm2) (hmax2 _ hm)
    subst e
    refine g_idxX hN hm fun j hj => ?_
    have hjl := (List.getElem?_eq_some_iff.mp hj).1
    refine g_kSet (k := j) (us := natsD L) hCg ?_ ?_
    · rw [natsD_len]
      unfold ixN
      have := hS.few
      rw [if_pos (by omega), if_pos (by omega)]
      rfl
    have hm4 : 4 ≤ m2 := by
      rcases Nat.lt_or_ge m2 4 with q | q
      · have := sum_few (b := 3) (L := L) fun x hx => by have := hmax x hx; omega
        have := hS.few
        have : 3 * L.length ≤ 3 * 4 := Nat.mul_le_mul_left _ hS.few
        omega
      · exact q
    have hsum := sum_set (x := m2 - 1) hj
    have hset : (natsD L).set j (.int ((m2 : Int) - 1)) = natsD (L.set j (m2 - 1)) := by
      unfold natsD
      rw [List.map_set, show (m2 : Int) - 1 = ((m2 - 1 : Nat) : Int) by omega]
    rw [hset]
    have hm6 := hS.six _ hm
    refine ⟨(L.set j (m2 - 1)).sum, by omega, L.set j (m2 - 1), .ce g, rfl, ⟨by rw [List.length_set]; exact h1, by rw [List.length_set]; exact hS.few, fun y hy => ?_, fun y hy => ?_⟩, .inl ⟨rfl, put_same⟩, hP2.other hpg, hO2.put hg0, rfl⟩
    · rcases List.mem_or_eq_of_mem_set hy with q | q
      · exact hS.pos y q
      · omega
    · rcases List.mem_or_eq_of_mem_set hy with q | q
      · exact hS.six y q
      · omega
  have hle : L.sum ≤ 12 := by omega
  walk_at "go"
  have hpos := hS.pos
  have h1 := hS.one
  have hfew := hS.few
  have hsp := sum_pos hpos
  refine g_frzOX (ds := natsD L) rfl (hx5.imp (fun ⟨a, b⟩ => ⟨g, a, b⟩) fun ⟨a, _⟩ => a) fun C5 hC5 => ?_
  have hPO : Pen (n + 20) C5 p ∧ Oth p C C5 := by
    rcases hC5 with ⟨rfl, _⟩ | ⟨q, e, rfl⟩
    · exact ⟨hP2.less, hO2⟩
    · rcases hx5 with ⟨rfl, _⟩ | ⟨rfl, _⟩
      · cases e
        exact ⟨(hP2.otherD hpg).less, hO2.del hg0⟩
      · cases e
  obtain ⟨hP5, hO5⟩ := hPO
  simp only [List.set_cons_succ, List.set_cons_zero]
  walk_at "go"
  intro g2 hg2
  have hpg2 : p ≠ g2 := by obtain ⟨_, h, _⟩ := hP5; exact ne_cell h hg2
  have hg20 : C g2 = none := hO5.none hpg2.symm hg2
  walk_at "go"
  refine g_kForL (fun i st C' => ∃ (ys : List Str) (z : Str) (x4 x7 x8 x9 : Option D), ys.map (·.length) = L.take i ∧ (∀ y ∈ ys, Good y) ∧ Good z ∧ ((ys.map cs).flatten ++ cs z).Nodup ∧ z.length + (L.take i).sum = 93 ∧ C' g2 = some (.lst (strsL ys)) ∧ Pen (n + 20 - (L.take i).sum) C' p ∧ Oth p C C' ∧ st = [some (.ce p), some (.int 6), some (.str z), some (.int am), x4, some (.lst (natsD L)), some (.ce g2), x7, x8, x9]) ?_ (fun i d st C' hi hw => ?_) (fun st C' hw => ?_)
  · simp only [Bool.and_eq_true, decide_eq_true_eq, List.all_eq_true] at hlk
    exact ⟨[], lets0, none, none, none, none, rfl, by simp, fun c hc => hlk.2 c hc, hln, by simp [hlk.1], put_same, hP5.other hpg2, hO5.put hg20, rfl⟩
  · obtain ⟨ys, z, x4, x7, x8, x9, hys, hyg, hzg, hnd, hzl, hCg2, hP6, hO6, rfl⟩ := hw
    obtain ⟨hil, rfl⟩ := natsD_get hi
    have e : L[i]? = some L[i] := List.getElem?_eq_getElem hil
    have hs6 := hS.six _ (List.getElem_mem hil)
    generalize L[i] = sz at e hs6
    have htk : (L.take (i + 1)).sum = (L.take i).sum + sz := by rw [List.take_add_one, e, List.sum_append]; simp
    have htl : (L.take (i + 1)).sum ≤ L.sum := by
      have := congrArg List.sum (List.take_append_drop (i + 1) L)
      rw [List.sum_append] at this
      omega
    walk_at "go"
    refine g_kForR0 (fun j st C7 => ∃ (w z : Str) (x4 x9 : Option D), w.length = j ∧ Good w ∧ Good z ∧ ((ys.map cs).flatten ++ (cs w ++ cs z)).Nodup ∧ z.length + ((L.take i).sum + j) = 93 ∧ C7 g2 = some (.lst (strsL ys)) ∧ Pen (n + 20 - ((L.take i).sum + j)) C7 p ∧ Oth p C C7 ∧ st = [some (.ce p), some (.int 6), some (.str z), some (.int am), x4, some (.lst (natsD L)), some (.ce g2), some (.int sz), some (.str w), x9]) ?_ (fun j st C7 hj hw => ?_) (fun st C7 hw => ?_)
    · exact ⟨"", z, x4, x9, by decide +kernel, fun c hc => by revert hc; rw [show ("" : Str).cps.toList = [] by decide +kernel]; simp, hzg, by rw [show cs ("" : Str) = [] from by decide +kernel]; exact hnd, by omega, hCg2, hP6, hO6, rfl⟩
    · obtain ⟨w, z, x4, x9, hwl, hwg, hzg, hnd, hzl, hCg2, hP7, hO7, rfl⟩ := hw
      have hj2 : j < sz := hj
      walk_at "go"
      refine g_lenS (by simp only [sizeLine]; omega) ?_
      walk_at "go"
      refine draw_ok (n := n + 20 - ((L.take i).sum + (j + 1))) (hP7.less) (by omega) (by omega) fun c u hc hu => ?_
      have hP8 := pen_put (C := C7) (p := p) hc
      have hO8 := hO7.pen (c := c)
      have hCg8 := put_other (d := c) hpg2.symm hCg2
      generalize put C7 p c = C8 at hP8 hO8 hCg8 ⊢
      walk_at "go"
      refine g_ixO2 (by omega) hu fun a ha hau => ?_
      refine g_addS (by rw [show (oneS a).length = 1 from rfl]; simp only [sizeLine]; omega) ?_
      walk_at "go"
      refine g_cutSt (by omega) ?_
      walk_at "go"
      rw [show (u : Int) + 1 = ((u + 1 : Nat) : Int) by omega]
      refine g_cutSt (by omega) ?_
      have l1 : (cutS z none (some (u : Int))).length = u := by rw [← AL.len_toList, cutS_take, List.length_take, AL.len_toList]; omega
      have l2 : (cutS z (some ((u + 1 : Nat) : Int)) none).length = z.length - (u + 1) := by rw [← AL.len_toList, cutS_drop, List.length_drop, AL.len_toList]
      refine g_addS (by rw [l1, l2]; simp only [sizeLine]; omega) ?_
      walk_at "go"
      refine ⟨w ++ oneS a, _, _, _, by rw [app_len, hwl]; rfl, hwg.app (fun c hc => by rw [show c = a by simpa [oneS] using hc]; exact hzg a ha), (hzg.cut).app (hzg.cut), ?_, by rw [app_len, l1, l2]; omega, hCg8, hP8, hO8, rfl⟩
      refine (List.Perm.nodup_iff (List.Perm.append_left _ ?_)).mp hnd
      have hz : cs z = (cs z).take u ++ (a :: (cs z).drop (u + 1)) := by
        obtain ⟨h1, h2⟩ := List.getElem?_eq_some_iff.mp (show (cs z)[u]? = some a from hau)
        have := (List.take_append_drop u (cs z)).symm
        rw [List.drop_eq_getElem_cons h1, h2] at this
        exact this
      have e1 : cs (w ++ oneS a) = cs w ++ [a] := app_toList _ _
      have e2 : cs (cutS z none (some (u : Int)) ++ cutS z (some ((u + 1 : Nat) : Int)) none) = (cs z).take u ++ (cs z).drop (u + 1) := by
        show (_ : Str).cps.toList = _
        rw [app_toList, cutS_take, cutS_drop]
        rfl
      rw [e1, e2, List.append_assoc]
      refine List.Perm.append_left _ ?_
      refine (List.Perm.of_eq hz).trans ?_
      exact List.perm_middle
    · obtain ⟨w, z, x4, x9, hwl, hwg, hzg, hnd, hzl, hCg2, hP7, hO7, rfl⟩ := hw
      have hwl2 : w.length = sz := hwl
      have hsz : ((sz : Nat) : Int).toNat = sz := by omega
      rw [hsz] at hzl hP7
      walk_at "go"
      have hyl := congrArg List.length hys
      rw [List.length_map, List.length_take] at hyl
      refine g_append hCg2 (by rw [List.length_map]; simp only [sizeLine]; omega) ?_
      walk_at "go"
      refine ⟨ys ++ [w], z, _, _, _, _, by rw [List.map_append, hys, List.take_add_one, e]; simp [hwl2], fun y hy => ?_, hzg, by rw [List.map_append, List.flatten_append]; simpa [List.append_assoc] using hnd, by omega, by rw [put_same]; simp [strsL], (by rw [htk]; exact hP7.other hpg2), hO7.put hg20, rfl⟩
      rcases List.mem_append.mp hy with q | q
      · exact hyg y q
      · rw [List.mem_singleton.mp q]; exact hwg
  · obtain ⟨ys, z, x4, x7, x8, x9, hys, hyg, hzg, hnd, hzl, hCg2, hP6, hO6, rfl⟩ := hw
    rw [natsD_len, List.take_length] at hys hP6
    walk_at "go"
    exact k ys _ (tg_of hS hys hle hyg (List.nodup_append.mp hnd).1) ((hP6.otherD hpg2).less) (hO6.del hg20)
end
end A_k39
namespace A_k39
open PySem L2 AL
theorem merge_out : ∀ (l es : List (Key × D)) (k : Key), (∀ e ∈ l, e.1 ≠ k) → valD (mergeD es l) k = valD es k
  | [], _, _, _ => rfl
  | e :: l, es, k, h => by
    show valD (mergeD (putD es e.1 e.2) l) k = _
    rw [merge_out l _ k fun x hx => h x (List.mem_cons_of_mem _ hx), valD_put, if_neg (Ne.symm (h e (by simp)))]
theorem merge_in : ∀ (l es : List (Key × D)) (k : Key) (d : D), (l.map (·.1)).Nodup → (k, d) ∈ l → valD (mergeD es l) k = some d
  | [], _, _, _, _, h => by cases h
  | e :: l, es, k, d, hn, h => by
    show valD (mergeD (putD es e.1 e.2) l) k = _
    obtain ⟨h1, h2⟩ := List.nodup_cons.mp (show (e.1 :: l.map (·.1)).Nodup from hn)
    rcases List.mem_cons.mp h with z | z
    · subst z
      rw [merge_out l _ k fun x hx ex => h1 (by show k ∈ _; rw [← ex]; exact List.mem_map.mpr ⟨x, hx, rfl⟩), valD_put, if_pos rfl]
    · exact merge_in l _ k d h2 z
def rho (a b : List Nat) (c : Nat) : Nat := b.getD (a.idxOf c) 0
theorem rho_at {a b : List Nat} (ha : a.Nodup) {i : Nat} (h1 : i < a.length) (h2 : i < b.length) : rho a b a[i] = b[i] := by
  unfold rho
  rw [ha.idxOf_getElem i h1, List.getD_eq_getElem?_getD, List.getElem?_eq_getElem h2]
  rfl
theorem mem_at {a : List Nat} {c : Nat} (h : c ∈ a) : ∃ i, ∃ h : i < a.length, a[i] = c := List.getElem_of_mem h
theorem rho_back {a b : List Nat} (ha : a.Nodup) (hb : b.Nodup) (hl : a.length = b.length) {c : Nat} (hc : c ∈ a) : rho b a (rho a b c) = c := by
  obtain ⟨i, hi, rfl⟩ := mem_at hc
  rw [rho_at ha hi (by omega), rho_at hb (by omega) hi]
theorem rho_in {a b : List Nat} (ha : a.Nodup) (hl : a.length = b.length) {c : Nat} (hc : c ∈ a) : rho a b c ∈ b := by
  obtain ⟨i, hi, rfl⟩ := mem_at hc
  rw [rho_at ha hi (by omega)]
  exact List.getElem_mem _
/-- the table of two texts -/
theorem table_val {x y : Str} (hn : x.cps.toList.Nodup) (hl : x.cps.toList.length = y.cps.toList.length) {c : Nat} (hc : c ∈ x.cps.toList) : valD (mergeD [] (sgZD x y)) (.inr ⟨#[c]⟩) = some (.str ⟨#[rho x.cps.toList y.cps.toList c]⟩) := by
  obtain ⟨i, hi, rfl⟩ := mem_at hc
  rw [rho_at hn hi (by omega)]
  refine merge_in _ _ _ _ ?_ ?_
  · have e : (sgZD x y).map (·.1) = (x.cps.toList).map fun c => (Sum.inr ⟨#[c]⟩ : Key) := by
      unfold sgZD
      rw [List.map_map]
      have : ((fun p : Nat × Nat => (Sum.inr ⟨#[p.1]⟩ : Key)) : Nat × Nat → Key) = (fun c => (Sum.inr ⟨#[c]⟩ : Key)) ∘ Prod.fst := rfl
      show (x.cps.toList.zip y.cps.toList).map ((fun c => (Sum.inr ⟨#[c]⟩ : Key)) ∘ Prod.fst) = _
      rw [← List.map_map, List.map_fst_zip (by omega)]
    rw [e]
    refine List.pairwise_map.mpr (hn.imp fun hne e => hne ?_)
    have := Sum.inr.inj e
    have := congrArg (fun z : Str => z.cps.toList) this
    simpa using this
  · unfold sgZD
    refine List.mem_map.mpr ⟨(x.cps.toList[i], y.cps.toList[i]), ?_, rfl⟩
    exact List.mem_of_getElem? (i := i) (List.getElem?_zip_eq_some.mpr ⟨List.getElem?_eq_getElem hi, List.getElem?_eq_getElem (by omega)⟩)
def mapT (f : Nat → Nat) (z : Str) : Str := ⟨(z.cps.toList.map f).toArray⟩
theorem mapT_list (f : Nat → Nat) (z : Str) : (mapT f z).cps.toList = z.cps.toList.map f := by unfold mapT; exact List.toList_toArray
theorem str_ext {a b : Str} (h : a.cps.toList = b.cps.toList) : a = b := by
  cases a with | mk x => cases b with | mk y =>
  congr 1
  exact Array.toList_inj.mp h
theorem mapT_back {f g : Nat → Nat} {z : Str} (h : ∀ c ∈ z.cps.toList, g (f c) = c) : mapT g (mapT f z) = z := by
  refine str_ext ?_
  rw [mapT_list, mapT_list, List.map_map]
  conv => rhs; rw [← List.map_id z.cps.toList]
  exact List.map_congr_left fun c hc => h c hc
theorem mapT_len (f : Nat → Nat) (z : Str) : (mapT f z).length = z.length := by rw [← AL.len_toList, mapT_list, List.length_map, AL.len_toList]
theorem join_map (f : Nat → Nat) (z : Str) : Txt.join "" (z.cps.toList.map fun c => (⟨#[f c]⟩ : Str)) = mapT f z := by
  refine str_ext ?_
  rw [join_toList, mapT_list, List.map_map]
  induction z.cps.toList with
  | nil => rfl
  | cons a l ih => rw [List.map_cons, List.flatten_cons, ih]; rfl
theorem occ_first {z : Str} {c : Nat} (hn : z.cps.toList.Nodup) (hc : c ∈ z.cps.toList) : ∃ rest, PySem.Builtin.Str.occurrences z ⟨#[c]⟩ 0 z.length 1 = z.cps.toList.idxOf c :: rest := by
  have h1 : (!(PySem.Builtin.Str.occurrences z ⟨#[c]⟩ 0 z.length 1).isEmpty) = true := by rw [PySem.StrLaws.found_one]; exact decide_eq_true hc
  cases e : PySem.Builtin.Str.occurrences z ⟨#[c]⟩ 0 z.length 1 with
  | nil => rw [e] at h1; cases h1
  | cons i rest =>
    refine ⟨rest, ?_⟩
    obtain ⟨h2, h3⟩ := PySem.StrLaws.occ_spec z ⟨#[c]⟩ 0 z.length 1 i (by rw [e]; exact List.mem_cons_self ..)
    rw [PySem.StrLaws.subAt_eq] at h3
    have h4 : (z.cps.toList.drop i).take 1 = [c] := eq_of_beq h3
    have h5 : i < z.cps.toList.length := by rw [len_toList]; exact h2
    have h6 : z.cps.toList[i] = c := by
      rw [List.drop_eq_getElem_cons h5] at h4
      simpa using h4
    have h7 : z.cps.toList.idxOf c = i := by rw [← h6]; exact hn.idxOf_getElem i h5
    rw [h7]
theorem find_first {z : Str} {c : Nat} (hn : z.cps.toList.Nodup) (hc : c ∈ z.cps.toList) : Txt.find z ⟨#[c]⟩ = ((z.cps.toList.idxOf c : Nat) : Int) := by
  obtain ⟨rest, e⟩ := occ_first hn hc
  unfold Txt.find
  rw [e]
structure TgI (tg : List Str) : Prop where
  one : 1 ≤ tg.length
  four : tg.length ≤ 4
  len : ∀ y ∈ tg, 1 ≤ y.length ∧ y.length ≤ 6
  size : (zs tg).length ≤ 12
  nd : (zs tg).Nodup
  good : ∀ c ∈ zs tg, A_k39.T.goodB c = true
theorem Tg.inv {tg : List Str} (h : Tg tg) : TgI tg := by
  have h : (decide (1 ≤ (strsL tg).length) && decide ((strsL tg).length ≤ 4) && (strsL tg).all A_k39.T.kndB && (decide ((A_k39.T.Z (strsL tg)).length ≤ 12) && decide ((A_k39.T.Z (strsL tg)).Nodup) && (A_k39.T.Z (strsL tg)).all A_k39.T.goodB)) = true := h
  simp only [Bool.and_eq_true, decide_eq_true_eq] at h
  obtain ⟨⟨⟨h1, h2⟩, h3⟩, ⟨h4, h5⟩, h6⟩ := h
  rw [A_k39.T.Z_strs] at h4 h5 h6
  have hl : (strsL tg).length = tg.length := by simp [strsL]
  rw [hl] at h1 h2
  refine ⟨h1, h2, fun y hy => ?_, h4, h5, fun c hc => List.all_eq_true.mp h6 c hc⟩
  have := List.all_eq_true.mp h3 (.str y) (List.mem_map.mpr ⟨y, hy, rfl⟩)
  simpa [A_k39.T.kndB] using this
theorem zs_eq (tg : List Str) : zs tg = (tg.map cs).flatten := join_toList tg
theorem in_zs {tg : List Str} {y : Str} (h : y ∈ tg) {c : Nat} (hc : c ∈ cs y) : c ∈ zs tg := by
  rw [zs_eq]
  exact List.mem_flatten.mpr ⟨_, List.mem_map.mpr ⟨y, h, rfl⟩, hc⟩
def In (tg : List Str) (z : Str) : Prop := ∀ c ∈ z.cps.toList, c ∈ zs tg
/-- the same signs, kind by kind -/
def Like : List Str → List Str → Prop
  | [], [] => True
  | a :: l, b :: m => (cs a).Perm (cs b) ∧ Like l m
  | _, _ => False
theorem Like.len : ∀ {l m : List Str}, Like l m → l.length = m.length
  | [], [], _ => rfl
  | a :: l, b :: m, h => by rw [List.length_cons, List.length_cons, Like.len h.2]
  | [], _ :: _, h => h.elim
  | _ :: _, [], h => h.elim
theorem Like.symm : ∀ {l m : List Str}, Like l m → Like m l
  | [], [], _ => trivial
  | a :: l, b :: m, h => ⟨h.1.symm, Like.symm h.2⟩
  | [], _ :: _, h => h.elim
  | _ :: _, [], h => h.elim
theorem Like.perm : ∀ {l m : List Str}, Like l m → (zs l).Perm (zs m)
  | [], [], _ => List.Perm.refl _
  | a :: l, b :: m, h => by
    rw [zs_eq, zs_eq, List.map_cons, List.map_cons, List.flatten_cons, List.flatten_cons]
    have := Like.perm h.2
    rw [zs_eq, zs_eq] at this
    exact h.1.append this
  | [], _ :: _, h => h.elim
  | _ :: _, [], h => h.elim
def rh (tg og : List Str) : Nat → Nat := rho (zs tg) (zs og)
theorem rh_back {tg og : List Str} (h : Tg tg) (g : Tg og) (hl : Like tg og) {c : Nat} (hc : c ∈ zs tg) : rh og tg (rh tg og c) = c := rho_back h.inv.nd g.inv.nd hl.perm.length_eq hc
theorem rh_in {tg og : List Str} (h : Tg tg) (hl : Like tg og) {c : Nat} (hc : c ∈ zs tg) : rh tg og c ∈ zs og := rho_in h.inv.nd hl.perm.length_eq hc
theorem In.map {tg og : List Str} (h : Tg tg) (hl : Like tg og) {z : Str} (hz : In tg z) : In og (mapT (rh tg og) z) := fun c hc => by
  rw [mapT_list] at hc
  obtain ⟨d, hd, rfl⟩ := List.mem_map.mp hc
  exact rh_in h hl (hz d hd)
section
variable {C : AH} {P : D → AH → Prop}
theorem signs_of_ok {tg : List Str} (h : Tg tg) (k : P (.str (Txt.join "" tg)) C) : s_signs_of [.tup (strsL tg)] C P := by
  unfold s_signs_of a_signs_of
  walk_at "go"
  refine g_joinT ?_ k
  have := h.inv.size
  have e : (zs tg).length = (tg.map (·.length)).sum := by unfold zs; rw [AL.len_toList, join_len]
  show _ + tg.length * (0 : Nat) ≤ _
  omega
theorem text_by_ok {es : List (Key × D)} {f : Nat → Nat} {z : Str} (hl : z.length ≤ 10000) (h : ∀ c ∈ z.cps.toList, valD es (.inr ⟨#[c]⟩) = some (.str ⟨#[f c]⟩)) (k : P (.str (mapT f z)) C) : s_text_by [.dk es, .str z] C P := by
  unfold s_text_by a_text_by
  walk_at "go"
  have hll : z.cps.toList.length = z.length := AL.len_toList z
  refine g_kLc (fun i acc C' => acc = (z.cps.toList.take i).map (fun c => D.str ⟨#[f c]⟩) ∧ C' = C) (by unfold signs; rw [List.length_map]; simp only [sizeLine]; omega) ⟨rfl, rfl⟩ (fun i d acc C' hi hw => ?_) (fun acc C' hw => ?_)
  · obtain ⟨rfl, rfl⟩ := hw
    unfold signs at hi
    rw [List.getElem?_map] at hi
    cases e : z.cps.toList[i]? with
    | none => rw [e] at hi; cases hi
    | some c =>
      rw [e] at hi
      cases hi
      walk_at "go"
      refine g_getK ?_
      walk_at "go"
      refine g_kGetK (C := C') (es := es) rfl (show AL.keyOf (.str ⟨#[c]⟩) = some (.inr ⟨#[c]⟩) from rfl) (h c (List.mem_of_getElem? e)) ?_
      refine ⟨?_, rfl⟩
      rw [List.take_add_one, e, List.map_append]
      rfl
  · obtain ⟨rfl, rfl⟩ := hw
    have e : (signs z).length = z.cps.toList.length := by unfold signs; rw [List.length_map]
    rw [e, List.take_length]
    walk_at "go"
    have e2 : z.cps.toList.map (fun c => D.str ⟨#[f c]⟩) = (z.cps.toList.map fun c => (⟨#[f c]⟩ : Str)).map D.str := by rw [List.map_map]; rfl
    rw [e2]
    refine g_joinL ?_ ?_
    · rw [List.map_map, List.length_map]
      have : ((fun y : Str => y.length) ∘ fun c => (⟨#[f c]⟩ : Str)) = fun _ => 1 := by funext c; rfl
      show (List.map ((fun y : Str => y.length) ∘ fun c => (⟨#[f c]⟩ : Str)) z.cps.toList).sum + _ ≤ _
      rw [this]
      have hs : ∀ l : List Nat, (l.map fun _ => 1).sum = l.length := fun l => by induction l with | nil => rfl | cons a l ih => simp [ih]; omega
      rw [hs]
      show _ + z.cps.toList.length * (0 : Nat) ≤ _
      omega
    · rw [join_map]; exact k
theorem law_by_ok {tg og : List Str} (h : Tg tg) (g : Tg og) (hL : Like tg og) {z : Str} (hl : z.length ≤ 10000) (hz : In tg z) (k : P (.str (mapT (rh tg og) z)) C) : s_law_by [.tup (strsL tg), .tup (strsL og), .str z] C P := by
  unfold s_law_by a_law_by
  have sz : ∀ {t : List Str}, Tg t → (t.map (·.length)).sum + t.length * (("" : Str)).length ≤ 16777216 := fun {t} ht => by
    have := ht.inv.size
    have e : (zs t).length = (t.map (·.length)).sum := by unfold zs; rw [AL.len_toList, join_len]
    show _ + t.length * (0 : Nat) ≤ _
    omega
  walk_at "go"
  refine g_joinT (sz h) ?_
  walk_at "go"
  refine g_joinT (sz g) ?_
  walk_at "go"
  have hll : z.cps.toList.length = z.length := AL.len_toList z
  refine g_kLc (fun i acc C' => acc = (z.cps.toList.take i).map (fun c => D.str ⟨#[rh tg og c]⟩) ∧ C' = C) (by unfold signs; rw [List.length_map]; simp only [sizeLine]; omega) ⟨rfl, rfl⟩ (fun i d acc C' hi hw => ?_) (fun acc C' hw => ?_)
  · obtain ⟨rfl, rfl⟩ := hw
    unfold signs at hi
    rw [List.getElem?_map] at hi
    cases e : z.cps.toList[i]? with
    | none => rw [e] at hi; cases hi
    | some c =>
      rw [e] at hi
      cases hi
      have hc := hz c (List.mem_of_getElem? e)
      walk_at "go"
      refine g_sfind ?_
      rw [find_first (z := Txt.join "" tg) h.inv.nd hc]
      have hlen : (zs tg).length = (zs og).length := hL.perm.length_eq
      have hix : (zs tg).idxOf c < (zs tg).length := List.idxOf_lt_length_iff.mpr hc
      have h12 := g.inv.size
      refine g_ixO2 (z := Txt.join "" og) (by rw [← AL.len_toList]; show (zs og).length ≤ 10000; omega) (by rw [← AL.len_toList]; show (zs tg).idxOf c < (zs og).length; omega) fun a _ ha => ?_
      have ea : a = rh tg og c := by
        unfold rh rho
        rw [List.getD_eq_getElem?_getD]
        show a = ((Txt.join "" og).cps.toList[(Txt.join "" tg).cps.toList.idxOf c]?).getD 0
        rw [ha]
        rfl
      rw [ea]
      refine ⟨?_, rfl⟩
      rw [List.take_add_one, e, List.map_append]
      rfl
  · obtain ⟨rfl, rfl⟩ := hw
    have e : (signs z).length = z.cps.toList.length := by unfold signs; rw [List.length_map]
    rw [e, List.take_length]
    walk_at "go"
    have e2 : z.cps.toList.map (fun c => D.str ⟨#[rh tg og c]⟩) = (z.cps.toList.map fun c => (⟨#[rh tg og c]⟩ : Str)).map D.str := by rw [List.map_map]; rfl
    rw [e2]
    refine g_joinL ?_ ?_
    · rw [List.map_map, List.length_map]
      have : ((fun y : Str => y.length) ∘ fun c => (⟨#[rh tg og c]⟩ : Str)) = fun _ => 1 := by funext c; rfl
      show (List.map ((fun y : Str => y.length) ∘ fun c => (⟨#[rh tg og c]⟩ : Str)) z.cps.toList).sum + _ ≤ _
      rw [this]
      have hs : ∀ l : List Nat, (l.map fun _ => 1).sum = l.length := fun l => by induction l with | nil => rfl | cons a l ih => simp [ih]; omega
      rw [hs]
      show _ + z.cps.toList.length * (0 : Nat) ≤ _
      omega
    · rw [join_map]; exact k
end
end A_k39
namespace A_k39
open PySem L2 AL
theorem zs_len (tg : List Str) : (zs tg).length = (tg.map (·.length)).sum := by unfold zs; rw [AL.len_toList, join_len]
theorem Tg.sz {tg : List Str} (h : Tg tg) : (tg.map (·.length)).sum + tg.length * (("" : Str)).length ≤ 16777216 := by
  have := h.inv.size
  rw [zs_len] at this
  show _ + tg.length * (0 : Nat) ≤ _
  omega
theorem Like.mem : ∀ {l m : List Str}, Like l m → ∀ b ∈ m, ∃ a ∈ l, (cs a).Perm (cs b)
  | [], [], _, b, hb => by cases hb
  | a :: l, c :: m, h, b, hb => by
    rcases List.mem_cons.mp hb with z | z
    · rw [z]; exact ⟨a, by simp, h.1⟩
    · obtain ⟨x, hx, hp⟩ := Like.mem h.2 b z
      exact ⟨x, List.mem_cons_of_mem _ hx, hp⟩
  | [], _ :: _, h, _, _ => h.elim
  | _ :: _, [], h, _, _ => h.elim
theorem Like.snoc : ∀ {l m : List Str}, Like l m → ∀ {a b : Str}, (cs a).Perm (cs b) → Like (l ++ [a]) (m ++ [b])
  | [], [], _, a, b, h => ⟨h, trivial⟩
  | x :: l, y :: m, g, a, b, h => ⟨g.1, Like.snoc g.2 h⟩
  | [], _ :: _, h, _, _, _ => h.elim
  | _ :: _, [], h, _, _, _ => h.elim
theorem tg_mk {tg : List Str} (h : TgI tg) : Tg tg := by
  show (decide (1 ≤ (strsL tg).length) && decide ((strsL tg).length ≤ 4) && (strsL tg).all A_k39.T.kndB && (decide ((A_k39.T.Z (strsL tg)).length ≤ 12) && decide ((A_k39.T.Z (strsL tg)).Nodup) && (A_k39.T.Z (strsL tg)).all A_k39.T.goodB)) = true
  have hl : (strsL tg).length = tg.length := by simp [strsL]
  rw [A_k39.T.Z_strs, hl]
  have h3 : (strsL tg).all A_k39.T.kndB = true := by
    rw [List.all_eq_true]
    intro d hd
    obtain ⟨y, hy, rfl⟩ := List.mem_map.mp hd
    have := h.len y hy
    simpa [A_k39.T.kndB] using this
  have h6 : ((Txt.join "" tg).cps.toList).all A_k39.T.goodB = true := List.all_eq_true.mpr h.good
  rw [decide_eq_true h.one, decide_eq_true h.four, h3, decide_eq_true (show (Txt.join "" tg).cps.toList.length ≤ 12 from h.size), decide_eq_true (show (Txt.join "" tg).cps.toList.Nodup from h.nd), h6]
  rfl
theorem Tg.like {tg og : List Str} (h : Tg tg) (hL : Like tg og) : Tg og := by
  have hi := h.inv
  have hp := hL.perm
  refine tg_mk ⟨by rw [← hL.len]; exact hi.one, by rw [← hL.len]; exact hi.four, fun y hy => ?_, by rw [← hp.length_eq]; exact hi.size, (List.Perm.nodup_iff hp).mp hi.nd, fun c hc => hi.good c (hp.mem_iff.mpr hc)⟩
  obtain ⟨a, ha, hpa⟩ := hL.mem y hy
  have := hi.len a ha
  have e := hpa.length_eq
  unfold cs at e
  rw [AL.len_toList, AL.len_toList] at e
  omega
theorem cs_app (a b : Str) : cs (a ++ b) = cs a ++ cs b := app_toList a b
theorem sum_take {L : List Nat} (i : Nat) : (L.take i).sum ≤ L.sum := by
  have := congrArg List.sum (List.take_append_drop i L)
  rw [List.sum_append] at this
  omega
section
variable {C : AH} {P : D → AH → Prop}
theorem other_ok {n : Nat} {tg : List Str} (h : Tg tg) {p : Addr} (hp : Pen (n + 12) C p) (k : ∀ og C', Tg og → Like tg og → Pen n C' p → Oth p C C' → P (.tup (strsL og)) C') : s_law_other [.ce p, .tup (strsL tg)] C P := by
  have hi := h.inv
  have hs := hi.size
  rw [zs_len] at hs
  unfold s_law_other a_law_other
  walk_at "go"
  intro g hg
  have hpg : p ≠ g := by obtain ⟨_, h, _⟩ := hp; exact ne_cell h hg
  have hP := hp.other (c := .lst []) hpg
  have hO := (Oth.refl p C).put (c := .lst []) hg
  have hCg : (put C g (.lst [])) g = some (.lst (strsL [])) := put_same
  generalize put C g (.lst []) = C1 at hP hO hCg
  walk_at "go"
  refine g_kForL (fun i st C' => ∃ (ys : List Str) (x3 x4 x5 x6 : Option D), Like (tg.take i) ys ∧ Pen (n + 12 - ((tg.take i).map (·.length)).sum) C' p ∧ Oth p C C' ∧ C' g = some (.lst (strsL ys)) ∧ st = [some (.ce p), some (.tup (strsL tg)), some (.ce g), x3, x4, x5, x6]) ⟨[], _, _, _, _, trivial, hP, hO, hCg, rfl⟩ (fun i d st C' hi2 hw => ?_) (fun st C' hw => ?_)
  · obtain ⟨ys, x3, x4, x5, x6, hL, hP, hO, hCg, rfl⟩ := hw
    unfold strsL at hi2
    rw [List.getElem?_map] at hi2
    cases e : tg[i]? with
    | none => rw [e] at hi2; cases hi2
    | some y =>
    rw [e] at hi2
    cases hi2
    have hil := (List.getElem?_eq_some_iff.mp e).1
    have hy := hi.len y (List.mem_of_getElem? e)
    have htk : tg.take (i + 1) = tg.take i ++ [y] := by rw [List.take_add_one, e]; rfl
    have hsum : ((tg.take (i + 1)).map (·.length)).sum = ((tg.take i).map (·.length)).sum + y.length := by rw [htk, List.map_append, List.sum_append]; simp
    have hle : ((tg.take (i + 1)).map (·.length)).sum ≤ 12 := by
      rw [List.map_take]
      exact Nat.le_trans (sum_take _) hs
    have hyl : (cs y).length = y.length := AL.len_toList y
    walk_at "go"
    refine g_kForL (fun j st C2 => ∃ (w : Str) (x5 x6 : Option D), (cs w).Perm ((cs y).take j) ∧ Pen (n + 12 - (((tg.take i).map (·.length)).sum + j)) C2 p ∧ Oth p C C2 ∧ C2 g = some (.lst (strsL ys)) ∧ st = [some (.ce p), some (.tup (strsL tg)), some (.ce g), some (.str y), some (.str w), x5, x6]) ⟨"", _, _, by rw [show cs ("" : Str) = [] from by decide +kernel]; exact List.Perm.refl _, hP, hO, hCg, rfl⟩ (fun j d st C2 hj hw => ?_) (fun st C2 hw => ?_)
    · obtain ⟨w, x5, x6, hw, hP, hO, hCg, rfl⟩ := hw
      unfold signs at hj
      rw [List.getElem?_map] at hj
      cases ec : y.cps.toList[j]? with
      | none => rw [ec] at hj; cases hj
      | some c =>
      rw [ec] at hj
      cases hj
      have hjl : j < (cs y).length := (List.getElem?_eq_some_iff.mp ec).1
      have hwl : w.length = j := by
        have := hw.length_eq
        rw [List.length_take] at this
        have e2 : (cs w).length = w.length := AL.len_toList w
        omega
      walk_at "go"
      refine g_lenS (by simp only [sizeLine]; omega) ?_
      walk_at "go"
      rw [hwl, show ((j : Nat) : Int) + 1 = ((j + 1 : Nat) : Int) by omega]
      refine draw_ok (n := n + 12 - (((tg.take i).map (·.length)).sum + (j + 1))) (m := j + 1) (hP.less) (by omega) (by omega) fun cc u hc hu => ?_
      have hP := pen_put (C := C2) (p := p) hc
      have hO := hO.pen (c := cc)
      have hCg := put_other (d := cc) hpg.symm hCg
      generalize put C2 p cc = C3 at hP hO hCg
      walk_at "go"
      refine g_cutSt (by omega) ?_
      have l1 : (cutS w none (some (u : Int))).length = u := by rw [← AL.len_toList, cutS_take, List.length_take, AL.len_toList]; omega
      have l2 : (cutS w (some (u : Int)) none).length = j - u := by rw [← AL.len_toList, cutS_drop, List.length_drop, AL.len_toList]; omega
      walk_at "go"
      refine g_addS (by rw [l1]; show u + 1 ≤ sizeLine; simp only [sizeLine]; omega) ?_
      walk_at "go"
      refine g_cutSt (by omega) ?_
      refine g_addS (by rw [app_len, l1, l2]; show u + 1 + _ ≤ sizeLine; simp only [sizeLine]; omega) ?_
      walk_at "go"
      refine ⟨_, _, _, ?_, hP, hO, hCg, rfl⟩
      have e3 : cs (cutS w none (some (u : Int)) ++ (⟨#[c]⟩ : Str) ++ cutS w (some (u : Int)) none) = (cs w).take u ++ [c] ++ (cs w).drop u := by
        rw [cs_app, cs_app]
        show (cutS w none (some (u : Int))).cps.toList ++ [c] ++ (cutS w (some (u : Int)) none).cps.toList = _
        rw [cutS_take, cutS_drop]
        rfl
      rw [e3, List.take_add_one, show (cs y)[j]? = some c from ec]
      refine List.Perm.trans ?_ (hw.append_right _)
      rw [List.append_assoc]
      refine (List.perm_append_comm_assoc _ _ _).trans ?_
      rw [List.take_append_drop]
      exact List.perm_append_comm
    · obtain ⟨w, x5, x6, hw, hP, hO, hCg, rfl⟩ := hw
      have e4 : (signs y).length = (cs y).length := by unfold signs; rw [List.length_map]; rfl
      rw [e4] at hw hP
      rw [List.take_length] at hw
      have hyl2 := congrArg List.length (show strsL ys = ys.map D.str from rfl)
      have hll := hL.len
      rw [List.length_take] at hll
      have h4 := hi.four
      walk_at "go"
      refine g_append hCg (by rw [hyl2, List.length_map]; simp only [sizeLine]; omega) ?_
      refine ⟨ys ++ [w], _, _, _, _, by rw [htk]; exact hL.snoc hw.symm, ?_, hO.put hg, by rw [put_same]; simp [strsL], rfl⟩
      have : n + 12 - ((tg.take (i + 1)).map (·.length)).sum = n + 12 - (((tg.take i).map (·.length)).sum + (cs y).length) := by rw [hsum, hyl]
      rw [this]
      exact hP.other hpg
  · obtain ⟨ys, x3, x4, x5, x6, hL, hP, hO, hCg, rfl⟩ := hw
    have e5 : (strsL tg).length = tg.length := by simp [strsL]
    rw [e5, List.take_length] at hL hP
    refine g_frzL rfl hCg ?_
    have hP := hP.otherD hpg
    have hO := hO.del hg
    generalize AL.del C' g = C2 at hP hO
    walk_at "go"
    exact k ys C2 (h.like hL) hL hP.less hO
theorem text_ok {n m : Nat} {tg : List Str} (h : Tg tg) {p : Addr} (hm : 1 ≤ m) (hm2 : m ≤ 60) (hp : Pen (n + m + 3) C p) (k : ∀ z C', In tg z → 1 ≤ z.length → z.length ≤ m → Pen n C' p → Oth p C C' → P (.str z) C') : s_law_text [.ce p, .tup (strsL tg), .int (m : Nat)] C P := by
  have hi := h.inv
  have h12 := hi.size
  have hone : 1 ≤ (zs tg).length := by
    have h1 := hi.one
    obtain ⟨y, hy⟩ : ∃ y, y ∈ tg := ⟨tg[0], List.getElem_mem _⟩
    have h2 := (hi.len y hy).1
    have : (cs y).length = y.length := AL.len_toList y
    have h3 := h2
    obtain ⟨c, hc⟩ : ∃ c, c ∈ cs y := ⟨(cs y)[0]'(by omega), List.getElem_mem _⟩
    exact List.length_pos_of_mem (in_zs hy hc)
  have hjl : (Txt.join "" tg).length = (zs tg).length := (AL.len_toList _).symm
  unfold s_law_text a_law_text
  walk_at "go"
  refine g_joinT h.sz ?_
  walk_at "go"
  refine g_lenS (by rw [hjl]; simp only [sizeLine]; omega) ?_
  walk_at "go"
  refine draw_ok (n := n + m + 2) hp (by omega) (by omega) fun c d hc hd => ?_
  have hP := pen_put (C := C) (p := p) hc
  have hO := (Oth.refl p C).pen (c := c)
  generalize put C p c = C1 at hP hO
  refine g_ixO (by omega) hd fun c0 hc0 => ?_
  walk_at "go"
  refine draw_ok (n := n + m + 1) (m := 3) hP (by omega) (by omega) fun c d hc hd => ?_
  have hP := pen_put (C := C1) (p := p) hc
  have hO := hO.pen (c := c)
  generalize put C1 p c = C2 at hP hO
  walk_at "go"
  generalize decide ((d : Int) = 0) = al
  refine draw_ok (n := n + m) (m := m) hP (by omega) (by omega) fun c t hc ht => ?_
  have hP := pen_put (C := C2) (p := p) hc
  have hO := hO.pen (c := c)
  generalize put C2 p c = C3 at hP hO
  walk_at "go"
  rw [show ((t : Nat) : Int).toNat = t by omega]
  refine g_kForR0 (fun j st C' => ∃ (z : Str) (x6 x7 : Option D), In tg z ∧ z.length = j + 1 ∧ Pen (n + m - j) C' p ∧ Oth p C C' ∧ st = [some (.ce p), some (.tup (strsL tg)), some (.int (m : Nat)), some (.str (Txt.join "" tg)), some (.str z), some (.bl al), x6, x7]) ⟨oneS c0, _, _, fun a ha => by rw [show a = c0 by simpa [oneS] using ha]; exact hc0, rfl, hP, hO, rfl⟩ (fun j st C' hj hw => ?_) (fun st C' hw => ?_)
  · obtain ⟨z, x6, x7, hz, hzl, hP, hO, rfl⟩ := hw
    walk_at "go"
    refine g_lenS (by rw [hjl]; simp only [sizeLine]; omega) ?_
    walk_at "go"
    refine draw_ok (n := n + m - (j + 1)) (hP.less) (by omega) (by omega) fun c d hc hd => ?_
    have hP := pen_put (C := C') (p := p) hc
    have hO := hO.pen (c := c)
    generalize put C' p c = C5 at hP hO
    refine g_ixO (by omega) hd fun c1 hc1 => ?_
    walk_at "go"
    have fin : ∀ c1, c1 ∈ zs tg → In tg (z ++ oneS c1) ∧ (z ++ oneS c1).length = j + 1 + 1 := fun c1 hc1 => ⟨fun a ha => by
      rw [app_toList] at ha
      rcases List.mem_append.mp ha with q | q
      · exact hz a q
      · rw [show a = c1 by simpa [oneS] using q]; exact hc1, by rw [app_len, hzl]; rfl⟩
    refine g_ifJ (fun st C6 => ∃ c1, c1 ∈ zs tg ∧ C6 = C5 ∧ st = [some (.ce p), some (.tup (strsL tg)), some (.int (m : Nat)), some (.str (Txt.join "" tg)), some (.str z), some (.bl al), some (.int (j : Nat)), some (.str (oneS c1))]) (fun N hN => ?_) (fun st C6 hw => ?_)
    · refine g_ifS ?_
      walk_at "go"
      cases al with
      | false =>
        walk_at "go"
        exact hN _ _ ⟨c1, hc1, rfl, rfl⟩
      | true =>
        walk_at "go"
        refine g_ixO (i := 0) (by omega) (by omega) fun c2 hc2 => ?_
        walk_at "go"
        exact hN _ _ ⟨c2, hz c2 hc2, rfl, rfl⟩
    · obtain ⟨c1, hc1, rfl, rfl⟩ := hw
      obtain ⟨f1, f2⟩ := fin c1 hc1
      walk_at "go"
      refine g_addS (by rw [hzl, show (oneS c1).length = 1 from rfl]; simp only [sizeLine]; omega) ?_
      walk_at "go"
      exact ⟨_, _, _, f1, f2, hP, hO, rfl⟩
  · obtain ⟨z, x6, x7, hz, hzl, hP, hO, rfl⟩ := hw
    walk_at "go"
    exact k z C' hz (by omega) (by omega) hP.less hO
end
end A_k39
namespace A_k39
open PySem L2 AL
inductive Sn
  | long (l : Nat) (h : Option Nat) | least (a n : Nat) | often (z : Str) (n : Nat) | apart | wi (z : Str) | be (z : Str) | en (z : Str)
  | nt (s : Sn) | bo (s t : Sn) | ei (s t : Sn)
def sD : Sn → D
  | .long l h => .tup [.str "long", .int (l : Nat), oD h]
  | .least a n => .tup [.str "least", .int (a : Nat), .int (n : Nat)]
  | .often z n => .tup [.str "often", .str z, .int (n : Nat)]
  | .apart => .tup [.str "apart"]
  | .wi z => .tup [.str "without", .str z]
  | .be z => .tup [.str "begins", .str z]
  | .en z => .tup [.str "ends", .str z]
  | .nt s => .tup [.str "not", sD s]
  | .bo s t => .tup [.str "both", sD s, sD t]
  | .ei s t => .tup [.str "either", sD s, sD t]
def mapS (f : Nat → Nat) : Sn → Sn
  | .often z n => .often (mapT f z) n
  | .wi z => .wi (mapT f z)
  | .be z => .be (mapT f z)
  | .en z => .en (mapT f z)
  | .nt s => .nt (mapS f s)
  | .bo s t => .bo (mapS f s) (mapS f t)
  | .ei s t => .ei (mapS f s) (mapS f t)
  | s => s
def dp : Sn → Nat
  | .nt s => dp s + 1
  | .bo s t => max (dp s) (dp t) + 1
  | .ei s t => max (dp s) (dp t) + 1
  | _ => 1
/-- texts of the tongue -/
def TxI (tg : List Str) : Sn → Prop
  | .often z _ => In tg z ∧ z.length ≤ 20
  | .wi z => In tg z ∧ z.length ≤ 20
  | .be z => In tg z ∧ z.length ≤ 20
  | .en z => In tg z ∧ z.length ≤ 20
  | .nt s => TxI tg s
  | .bo s t => TxI tg s ∧ TxI tg t
  | .ei s t => TxI tg s ∧ TxI tg t
  | _ => True
theorem TxI.map {tg og : List Str} (h : Tg tg) (hl : Like tg og) : ∀ {s : Sn}, TxI tg s → TxI og (mapS (rh tg og) s)
  | .often z n, g => ⟨g.1.map h hl, by rw [mapT_len]; exact g.2⟩
  | .wi z, g => ⟨g.1.map h hl, by rw [mapT_len]; exact g.2⟩
  | .be z, g => ⟨g.1.map h hl, by rw [mapT_len]; exact g.2⟩
  | .en z, g => ⟨g.1.map h hl, by rw [mapT_len]; exact g.2⟩
  | .nt s, g => TxI.map h hl (s := s) g
  | .bo s t, g => ⟨TxI.map h hl g.1, TxI.map h hl g.2⟩
  | .ei s t, g => ⟨TxI.map h hl g.1, TxI.map h hl g.2⟩
  | .long _ _, _ => trivial
  | .least _ _, _ => trivial
  | .apart, _ => trivial
theorem mapS_back {tg og : List Str} (h : Tg tg) (g : Tg og) (hl : Like tg og) : ∀ {s : Sn}, TxI tg s → mapS (rh og tg) (mapS (rh tg og) s) = s
  | .often z n, q => by show Sn.often _ n = _; rw [mapT_back fun c hc => rh_back h g hl (q.1 c hc)]
  | .wi z, q => by show Sn.wi _ = _; rw [mapT_back fun c hc => rh_back h g hl (q.1 c hc)]
  | .be z, q => by show Sn.be _ = _; rw [mapT_back fun c hc => rh_back h g hl (q.1 c hc)]
  | .en z, q => by show Sn.en _ = _; rw [mapT_back fun c hc => rh_back h g hl (q.1 c hc)]
  | .nt s, q => by show Sn.nt _ = _; rw [mapS_back h g hl (s := s) q]
  | .bo s t, q => by show Sn.bo _ _ = _; rw [mapS_back h g hl q.1, mapS_back h g hl q.2]
  | .ei s t, q => by show Sn.ei _ _ = _; rw [mapS_back h g hl q.1, mapS_back h g hl q.2]
  | .long _ _, _ => rfl
  | .least _ _, _ => rfl
  | .apart, _ => rfl
theorem mapS_dp (f : Nat → Nat) : ∀ s : Sn, dp (mapS f s) = dp s
  | .often _ _ => rfl
  | .wi _ => rfl
  | .be _ => rfl
  | .en _ => rfl
  | .nt s => by show dp (mapS f s) + 1 = _; rw [mapS_dp f s]; rfl
  | .bo s t => by show max (dp (mapS f s)) (dp (mapS f t)) + 1 = _; rw [mapS_dp f s, mapS_dp f t]; rfl
  | .ei s t => by show max (dp (mapS f s)) (dp (mapS f t)) + 1 = _; rw [mapS_dp f s, mapS_dp f t]; rfl
  | .long _ _ => rfl
  | .least _ _ => rfl
  | .apart => rfl
theorem g_inC {C : AH} {P : D → AH → Prop} {w : Str} (ws : List Str) {b : Bool} (hx : inV (.str w) (ws.map V.str) = b) (k : P (.bl b) C) : aInL (.str w) (.tup (ws.map D.str)) C P := by
  have e : ∀ ws : List Str, toVs (ws.map D.str) = some (ws.map V.str) := fun ws => by
    induction ws with
    | nil => rfl
    | cons a l ih => rw [List.map_cons, List.map_cons]; simp only [toVs, toV, ih]
  show (match some (V.str w), toVs (ws.map D.str) with | some u, some us => P (.bl (inV u us)) C | _, _ => False)
  rw [e]
  show P (.bl (inV (.str w) (ws.map V.str))) C
  rw [hx]
  exact k
theorem sentence_by_ok {tg : List Str} {es : List (Key × D)} {f : Nat → Nat} (hes : ∀ c ∈ zs tg, valD es (.inr ⟨#[c]⟩) = some (.str ⟨#[f c]⟩)) : ∀ (s : Sn) (n : Nat), TxI tg s → dp s ≤ n → ∀ C P, P (sD (mapS f s)) C → s_sentence_by n [.dk es, sD s] C P
  | .often z m, n, hT, hd => by
    obtain ⟨n, rfl⟩ : ∃ m, n = m + 1 := ⟨n - 1, by simp only [dp] at hd; omega⟩
    intro C P k
    show aBody 3 (a_sentence_by (s_sentence_by n)) [.dk es, .tup [.str "often", .str z, .int (m : Nat)]] C P
    unfold a_sentence_by
    walk_at "go"
    refine g_ifT (fun K hK => ?_) ?_
    · walk_at "go"
      exact hK
    walk_at "go"
    refine text_by_ok (f := f) (by have := hT.2; omega) (fun c hc => hes c (hT.1 c hc)) ?_
    walk_at "go"
    exact k
  | .wi z, n, hT, hd => by
    obtain ⟨n, rfl⟩ : ∃ m, n = m + 1 := ⟨n - 1, by simp only [dp] at hd; omega⟩
    intro C P k
    show aBody 3 (a_sentence_by (s_sentence_by n)) [.dk es, .tup [.str "without", .str z]] C P
    unfold a_sentence_by
    walk_at "go"
    refine g_ifF (fun K hK => ?_) ?_
    · walk_at "go"
      exact hK
    walk_at "go"
    refine g_ifT (fun K hK => ?_) ?_
    · walk_at "go"
      refine g_inC ["without", "begins", "ends"] (b := true) (by decide +kernel) ?_
      walk_at "go"
      exact hK
    walk_at "go"
    refine text_by_ok (f := f) (by have := hT.2; omega) (fun c hc => hes c (hT.1 c hc)) ?_
    walk_at "go"
    exact k
  | .be z, n, hT, hd => by
    obtain ⟨n, rfl⟩ : ∃ m, n = m + 1 := ⟨n - 1, by simp only [dp] at hd; omega⟩
    intro C P k
    show aBody 3 (a_sentence_by (s_sentence_by n)) [.dk es, .tup [.str "begins", .str z]] C P
    unfold a_sentence_by
    walk_at "go"
    refine g_ifF (fun K hK => ?_) ?_
    · walk_at "go"
      exact hK
    walk_at "go"
    refine g_ifT (fun K hK => ?_) ?_
    · walk_at "go"
      refine g_inC ["without", "begins", "ends"] (b := true) (by decide +kernel) ?_
      walk_at "go"
      exact hK
    walk_at "go"
    refine text_by_ok (f := f) (by have := hT.2; omega) (fun c hc => hes c (hT.1 c hc)) ?_
    walk_at "go"
    exact k
  | .en z, n, hT, hd => by
    obtain ⟨n, rfl⟩ : ∃ m, n = m + 1 := ⟨n - 1, by simp only [dp] at hd; omega⟩
    intro C P k
    show aBody 3 (a_sentence_by (s_sentence_by n)) [.dk es, .tup [.str "ends", .str z]] C P
    unfold a_sentence_by
    walk_at "go"
    refine g_ifF (fun K hK => ?_) ?_
    · walk_at "go"
      exact hK
    walk_at "go"
    refine g_ifT (fun K hK => ?_) ?_
    · walk_at "go"
      refine g_inC ["without", "begins", "ends"] (b := true) (by decide +kernel) ?_
      walk_at "go"
      exact hK
    walk_at "go"
    refine text_by_ok (f := f) (by have := hT.2; omega) (fun c hc => hes c (hT.1 c hc)) ?_
    walk_at "go"
    exact k
  | .nt s, n, hT, hd => by
    obtain ⟨n, rfl⟩ : ∃ m, n = m + 1 := ⟨n - 1, by simp only [dp] at hd; omega⟩
    intro C P k
    show aBody 3 (a_sentence_by (s_sentence_by n)) [.dk es, .tup [.str "not", sD s]] C P
    unfold a_sentence_by
    walk_at "go"
    refine g_ifF (fun K hK => ?_) ?_
    · walk_at "go"
      exact hK
    walk_at "go"
    refine g_ifF (fun K hK => ?_) ?_
    · walk_at "go"
      refine g_inC ["without", "begins", "ends"] (b := false) (by decide +kernel) ?_
      walk_at "go"
      exact hK
    walk_at "go"
    refine g_ifT (fun K hK => ?_) ?_
    · walk_at "go"
      exact hK
    walk_at "go"
    refine sentence_by_ok hes s n hT (by simp only [dp] at hd; omega) _ _ ?_
    walk_at "go"
    exact k
  | .bo s t, n, hT, hd => by
    obtain ⟨n, rfl⟩ : ∃ m, n = m + 1 := ⟨n - 1, by simp only [dp] at hd; omega⟩
    intro C P k
    show aBody 3 (a_sentence_by (s_sentence_by n)) [.dk es, .tup [.str "both", sD s, sD t]] C P
    unfold a_sentence_by
    walk_at "go"
    refine g_ifF (fun K hK => ?_) ?_
    · walk_at "go"
      exact hK
    walk_at "go"
    refine g_ifF (fun K hK => ?_) ?_
    · walk_at "go"
      refine g_inC ["without", "begins", "ends"] (b := false) (by decide +kernel) ?_
      walk_at "go"
      exact hK
    walk_at "go"
    refine g_ifF (fun K hK => ?_) ?_
    · walk_at "go"
      exact hK
    walk_at "go"
    refine g_ifT (fun K hK => ?_) ?_
    · walk_at "go"
      refine g_ite (fun _ => ?_) (fun z => absurd z (by decide +kernel))
      exact hK
    walk_at "go"
    refine sentence_by_ok hes s n hT.1 (by simp only [dp] at hd; omega) _ _ ?_
    walk_at "go"
    refine sentence_by_ok hes t n hT.2 (by simp only [dp] at hd; omega) _ _ ?_
    walk_at "go"
    exact k
  | .ei s t, n, hT, hd => by
    obtain ⟨n, rfl⟩ : ∃ m, n = m + 1 := ⟨n - 1, by simp only [dp] at hd; omega⟩
    intro C P k
    show aBody 3 (a_sentence_by (s_sentence_by n)) [.dk es, .tup [.str "either", sD s, sD t]] C P
    unfold a_sentence_by
    walk_at "go"
    refine g_ifF (fun K hK => ?_) ?_
    · walk_at "go"
      exact hK
    walk_at "go"
    refine g_ifF (fun K hK => ?_) ?_
    · walk_at "go"
      refine g_inC ["without", "begins", "ends"] (b := false) (by decide +kernel) ?_
      walk_at "go"
      exact hK
    walk_at "go"
    refine g_ifF (fun K hK => ?_) ?_
    · walk_at "go"
      exact hK
    walk_at "go"
    refine g_ifT (fun K hK => ?_) ?_
    · walk_at "go"
      refine g_ite (fun z => absurd z (by decide +kernel)) (fun _ => ?_)
      walk_at "go"
      exact hK
    walk_at "go"
    refine sentence_by_ok hes s n hT.1 (by simp only [dp] at hd; omega) _ _ ?_
    walk_at "go"
    refine sentence_by_ok hes t n hT.2 (by simp only [dp] at hd; omega) _ _ ?_
    walk_at "go"
    exact k
  | .long l h, n, hT, hd => by
    obtain ⟨n, rfl⟩ : ∃ m, n = m + 1 := ⟨n - 1, by simp only [dp] at hd; omega⟩
    intro C P k
    show aBody 3 (a_sentence_by (s_sentence_by n)) [.dk es, .tup [.str "long", .int (l : Nat), oD h]] C P
    unfold a_sentence_by
    walk_at "go"
    refine g_ifF (fun K hK => ?_) ?_
    · walk_at "go"
      exact hK
    walk_at "go"
    refine g_ifF (fun K hK => ?_) ?_
    · walk_at "go"
      refine g_inC ["without", "begins", "ends"] (b := false) (by decide +kernel) ?_
      walk_at "go"
      exact hK
    walk_at "go"
    refine g_ifF (fun K hK => ?_) ?_
    · walk_at "go"
      exact hK
    walk_at "go"
    refine g_ifF (fun K hK => ?_) ?_
    · walk_at "go"
      refine g_ite (fun z => absurd z (by decide +kernel)) (fun _ => ?_)
      walk_at "go"
      exact hK
    walk_at "go"
    exact k
  | .least a m, n, hT, hd => by
    obtain ⟨n, rfl⟩ : ∃ m, n = m + 1 := ⟨n - 1, by simp only [dp] at hd; omega⟩
    intro C P k
    show aBody 3 (a_sentence_by (s_sentence_by n)) [.dk es, .tup [.str "least", .int (a : Nat), .int (m : Nat)]] C P
    unfold a_sentence_by
    walk_at "go"
    refine g_ifF (fun K hK => ?_) ?_
    · walk_at "go"
      exact hK
    walk_at "go"
    refine g_ifF (fun K hK => ?_) ?_
    · walk_at "go"
      refine g_inC ["without", "begins", "ends"] (b := false) (by decide +kernel) ?_
      walk_at "go"
      exact hK
    walk_at "go"
    refine g_ifF (fun K hK => ?_) ?_
    · walk_at "go"
      exact hK
    walk_at "go"
    refine g_ifF (fun K hK => ?_) ?_
    · walk_at "go"
      refine g_ite (fun z => absurd z (by decide +kernel)) (fun _ => ?_)
      walk_at "go"
      exact hK
    walk_at "go"
    exact k
  | .apart, n, hT, hd => by
    obtain ⟨n, rfl⟩ : ∃ m, n = m + 1 := ⟨n - 1, by simp only [dp] at hd; omega⟩
    intro C P k
    show aBody 3 (a_sentence_by (s_sentence_by n)) [.dk es, .tup [.str "apart"]] C P
    unfold a_sentence_by
    walk_at "go"
    refine g_ifF (fun K hK => ?_) ?_
    · walk_at "go"
      exact hK
    walk_at "go"
    refine g_ifF (fun K hK => ?_) ?_
    · walk_at "go"
      refine g_inC ["without", "begins", "ends"] (b := false) (by decide +kernel) ?_
      walk_at "go"
      exact hK
    walk_at "go"
    refine g_ifF (fun K hK => ?_) ?_
    · walk_at "go"
      exact hK
    walk_at "go"
    refine g_ifF (fun K hK => ?_) ?_
    · walk_at "go"
      refine g_ite (fun z => absurd z (by decide +kernel)) (fun _ => ?_)
      walk_at "go"
      exact hK
    walk_at "go"
    exact k
end A_k39
namespace A_k39
open PySem L2 AL
def nm : Sn → Str
  | .long _ _ => "long" | .least _ _ => "least" | .often _ _ => "often" | .apart => "apart" | .wi _ => "without" | .be _ => "begins" | .en _ => "ends" | .nt _ => "not" | .bo _ _ => "both" | .ei _ _ => "either"
def pts : Sn → List D
  | .long l h => [.int (l : Nat), oD h] | .least a n => [.int (a : Nat), .int (n : Nat)] | .often z n => [.str z, .int (n : Nat)] | .apart => [] | .wi z => [.str z] | .be z => [.str z] | .en z => [.str z]
  | .nt s => [sD s] | .bo s t => [sD s, sD t] | .ei s t => [sD s, sD t]
theorem sD_eq (s : Sn) : sD s = .tup (.str (nm s) :: pts s) := by cases s <;> rfl
theorem nm_map (f : Nat → Nat) (s : Sn) : nm (mapS f s) = nm s := by cases s <;> rfl
theorem pts_len (s : Sn) : (pts s).length ≤ 2 := by cases s <;> simp [pts]
theorem pts_map_len (f : Nat → Nat) (s : Sn) : (pts (mapS f s)).length = (pts s).length := by cases s <;> rfl
/-- what a part is -/
inductive Prt (tg : List Str) (f : Nat → Nat) (m : Nat) : D → D → Prop
  | tx (z : Str) : In tg z → z.length ≤ 20 → Prt tg f m (.str z) (.str (mapT f z))
  | sn (t : Sn) : TxI tg t → dp t < m → Prt tg f m (sD t) (sD (mapS f t))
  | num (i : Int) : Prt tg f m (.int i) (.int i)
  | non : Prt tg f m .non .non
theorem oD_prt {tg : List Str} {f : Nat → Nat} {m : Nat} (o : Option Nat) : Prt tg f m (oD o) (oD o) := by cases o with | none => exact .non | some n => exact .num _
theorem prt_two {tg : List Str} {f : Nat → Nat} {m : Nat} {a b a' b' : D} (h1 : Prt tg f m a a') (h2 : Prt tg f m b b') (i : Nat) (d : D) (h : [a, b][i]? = some d) : ∃ e, [a', b'][i]? = some e ∧ Prt tg f m d e := by
  rcases i with _ | _ | i
  · cases h; exact ⟨_, rfl, h1⟩
  · cases h; exact ⟨_, rfl, h2⟩
  · simp at h
theorem prt_one {tg : List Str} {f : Nat → Nat} {m : Nat} {a a' : D} (h1 : Prt tg f m a a') (i : Nat) (d : D) (h : [a][i]? = some d) : ∃ e, [a'][i]? = some e ∧ Prt tg f m d e := by
  rcases i with _ | i
  · cases h; exact ⟨_, rfl, h1⟩
  · simp at h
theorem prt_at {tg : List Str} {f : Nat → Nat} (s : Sn) (hT : TxI tg s) : ∀ (i : Nat) (d : D), (pts s)[i]? = some d → ∃ e, (pts (mapS f s))[i]? = some e ∧ Prt tg f (dp s) d e := by
  intro i d h
  cases s with
  | long l o => exact prt_two (.num _) (oD_prt o) i d h
  | least a n => exact prt_two (.num _) (.num _) i d h
  | often z n => exact prt_two (.tx z hT.1 hT.2) (.num _) i d h
  | apart => simp [pts] at h
  | wi z => exact prt_one (.tx z hT.1 hT.2) i d h
  | be z => exact prt_one (.tx z hT.1 hT.2) i d h
  | en z => exact prt_one (.tx z hT.1 hT.2) i d h
  | nt s => exact prt_one (.sn s hT (by simp only [dp]; omega)) i d h
  | bo s t => exact prt_two (.sn s hT.1 (by simp only [dp]; omega)) (.sn t hT.2 (by simp only [dp]; omega)) i d h
  | ei s t => exact prt_two (.sn s hT.1 (by simp only [dp]; omega)) (.sn t hT.2 (by simp only [dp]; omega)) i d h
theorem cut1 (d : D) (ds : List D) : cutD (d :: ds) (some 1) none = ds := cutD_drop (d :: ds) 1
theorem g_cutT {C : AH} {P : D → AH → Prop} {us : List D} {a b : Option Int} (k : P (.tup (cutD us a b)) C) : aCut (.tup us) a b C P := k
theorem lsentence_by_ok {tg og : List Str} (h : Tg tg) (g : Tg og) (hL : Like tg og) : ∀ (n : Nat) (s : Sn), TxI tg s → dp s ≤ n → ∀ C P, (∀ C', AL.Keep C C' → P (sD (mapS (rh tg og) s)) C') → s_law_sentence_by n [.tup (strsL tg), .tup (strsL og), sD s] C P
  | 0, s, _, hd => by cases s <;> simp [dp] at hd
  | n + 1, s, hT, hd => by
    intro C P k
    have hpl := pts_len s
    have hpm := pts_map_len (rh tg og) s
    have hpa := prt_at (f := rh tg og) s hT
    rw [sD_eq] at k ⊢
    rw [nm_map] at k
    generalize pts (mapS (rh tg og) s) = qs at k hpm hpa
    generalize pts s = ps at hpl hpm hpa
    generalize nm s = w at k
    show aBody 5 (a_law_sentence_by (s_law_sentence_by n)) _ C P
    unfold a_law_sentence_by
    walk_at "go"
    intro q hq
    have hK := (AL.Keep.refl C).put (c := .lst [.str w]) hq
    have hCq : (put C q (.lst [.str w])) q = some (.lst (.str w :: qs.take 0)) := put_same
    generalize put C q (.lst [.str w]) = C1 at hK hCq
    walk_at "go"
    refine g_cutT ?_
    rw [cut1]
    walk_at "go"
    refine g_kForL (fun i st C' => ∃ x4, AL.Keep C C' ∧ C' q = some (.lst (.str w :: qs.take i)) ∧ st = [some (.tup (strsL tg)), some (.tup (strsL og)), some (.tup (.str w :: ps)), some (.ce q), x4]) ⟨_, hK, hCq, rfl⟩ (fun i d st C' hi hw => ?_) (fun st C' hw => ?_)
    · obtain ⟨x4, hK, hCq, rfl⟩ := hw
      obtain ⟨e, he, hp⟩ := hpa i d hi
      have htk : qs.take (i + 1) = qs.take i ++ [e] := by rw [List.take_add_one, he]; rfl
      have hil := (List.getElem?_eq_some_iff.mp hi).1
      have hsz : (D.str w :: qs.take i).length + 1 ≤ sizeLine := by simp only [List.length_cons, List.length_take, sizeLine]; omega
      have fin : ∀ C' : AH, AL.Keep C C' → C' q = some (.lst (.str w :: qs.take i)) → AL.Keep C (put C' q (.lst (.str w :: qs.take i ++ [e]))) ∧ (put C' q (.lst (.str w :: qs.take i ++ [e]))) q = some (.lst (.str w :: qs.take (i + 1))) := fun C' hK hCq => ⟨hK.put hq, by rw [put_same, htk]; rfl⟩
      refine g_ifS ?_
      walk_at "go"
      cases hp with
      | tx z hz hzl =>
        walk_at "go"
        rw [show isT "str" "str" = true from rfl]
        walk_at "go"
        refine law_by_ok h g hL (by omega) hz ?_
        walk_at "go"
        refine g_append hCq hsz ?_
        obtain ⟨f1, f2⟩ := fin C' hK hCq
        exact ⟨_, f1, f2, rfl⟩
      | sn t ht hdt =>
        have e1 : isT "str" "tuple" = false := rfl
        have e2 : isT "tuple" "tuple" = true := rfl
        refine g_kIsi (t := "tuple") (by rw [sD_eq]; rfl) ?_
        rw [e1]
        walk_at "go"
        refine g_ifS ?_
        walk_at "go"
        refine g_kIsi (t := "tuple") (by rw [sD_eq]; rfl) ?_
        rw [e2]
        walk_at "go"
        refine lsentence_by_ok h g hL n t ht (by omega) _ _ fun C5 hK5 => ?_
        have hK := hK.trans hK5
        have hCq := hK5 q _ hCq
        walk_at "go"
        refine g_append hCq hsz ?_
        obtain ⟨f1, f2⟩ := fin C5 hK hCq
        exact ⟨_, f1, f2, rfl⟩
      | num j =>
        walk_at "go"
        rw [show isT "str" "int" = false from rfl]
        walk_at "go"
        refine g_ifS ?_
        walk_at "go"
        rw [show isT "tuple" "int" = false from rfl]
        walk_at "go"
        refine g_append hCq hsz ?_
        obtain ⟨f1, f2⟩ := fin C' hK hCq
        exact ⟨_, f1, f2, rfl⟩
      | non =>
        walk_at "go"
        rw [show isT "str" "NoneType" = false from rfl]
        walk_at "go"
        refine g_ifS ?_
        walk_at "go"
        rw [show isT "tuple" "NoneType" = false from rfl]
        walk_at "go"
        refine g_append hCq hsz ?_
        obtain ⟨f1, f2⟩ := fin C' hK hCq
        exact ⟨_, f1, f2, rfl⟩
    · obtain ⟨x4, hK, hCq, rfl⟩ := hw
      rw [← hpm, List.take_length] at hCq
      refine g_frzL rfl hCq ?_
      have hK := hK.del hq
      generalize AL.del C' q = C2 at hK
      walk_at "go"
      exact k C2 hK
end A_k39
namespace A_k39
open PySem L2 AL
theorem Tg.zpos {tg : List Str} (h : Tg tg) : 1 ≤ (zs tg).length := by
  have hi := h.inv
  have h1 := hi.one
  have h2 := (hi.len tg[0] (List.getElem_mem _)).1
  have e : (cs tg[0]).length = tg[0].length := AL.len_toList _
  exact List.length_pos_of_mem (in_zs (List.getElem_mem (by omega)) (List.getElem_mem (l := cs tg[0]) (n := 0) (by omega)))
/-- small numbers -/
def Sm : Sn → Prop
  | .long l o => l ≤ 3 ∧ ∀ h, o = some h → h ≤ 6
  | .least _ n => n ≤ 2
  | .often z n => z.length ≤ 2 ∧ n ≤ 2
  | .wi z => z.length ≤ 3
  | .be z => z.length ≤ 3
  | .en z => z.length ≤ 3
  | .nt s => Sm s
  | .bo s t => Sm s ∧ Sm t
  | .ei s t => Sm s ∧ Sm t
  | .apart => True
/-- how many leaves -/
def lf : Sn → Nat
  | .nt s => lf s
  | .bo s t => lf s + lf t
  | .ei s t => lf s + lf t
  | _ => 1
theorem lf_pos (s : Sn) : 1 ≤ lf s := by
  induction s with
  | nt s ih => exact ih
  | bo s t h1 h2 => simp only [lf]; omega
  | ei s t h1 h2 => simp only [lf]; omega
  | _ => exact Nat.le_refl _
section
variable {C : AH} {P : D → AH → Prop}
theorem plain_ok {n : Nat} {tg : List Str} (h : Tg tg) {p : Addr} (hp : Pen (n + 8) C p) (k : ∀ s C', TxI tg s → Sm s → dp s = 1 → lf s = 1 → Pen n C' p → Oth p C C' → P (sD s) C') : s_law_plain [.ce p, .tup (strsL tg)] C P := by
  have hz := h.zpos
  have hi := h.inv
  have h12 := hi.size
  have hjl : (Txt.join "" tg).length = (zs tg).length := (AL.len_toList _).symm
  unfold s_law_plain a_law_plain
  walk_at "go"
  refine g_joinT h.sz ?_
  walk_at "go"
  refine draw_ok (n := n + 7) (m := 8) hp (by omega) (by omega) fun c w hc hw => ?_
  have hP := pen_put (C := C) (p := p) hc
  have hO := (Oth.refl p C).pen (c := c)
  generalize put C p c = C1 at hP hO
  walk_at "go"
  refine g_ifS ?_
  walk_at "go"
  refine g_iteD (fun h1 => ?_) (fun h1 => ?_)
  · walk_at "go"
    refine draw_ok (n := n + 6) (m := 4) hP (by omega) (by omega) fun c l hc hl => ?_
    have hP := pen_put (C := C1) (p := p) hc
    have hO := hO.pen (c := c)
    generalize put C1 p c = C2 at hP hO
    walk_at "go"
    refine draw_ok (n := n + 5) (m := 4) hP (by omega) (by omega) fun c u hc hu => ?_
    have hP := pen_put (C := C2) (p := p) hc
    have hO := hO.pen (c := c)
    generalize put C2 p c = C3 at hP hO
    walk_at "go"
    refine g_ifS ?_
    walk_at "go"
    refine draw_ok (n := n + 4) (m := 3) hP (by omega) (by omega) fun c v hc hv => ?_
    have hP := pen_put (C := C3) (p := p) hc
    have hO := hO.pen (c := c)
    generalize put C3 p c = C4 at hP hO
    walk_at "go"
    refine g_iteD (fun _ => ?_) (fun _ => ?_)
    · walk_at "go"
      exact k (.long l none) C4 trivial ⟨by omega, fun h e => nomatch e⟩ rfl rfl hP.less hO
    · walk_at "go"
      rw [show (l : Int) + (u : Int) = ((l + u : Nat) : Int) by omega]
      exact k (.long l (some (l + u))) C4 trivial ⟨by omega, fun h e => by cases e; omega⟩ rfl rfl hP.less hO
  walk_at "go"
  refine g_ifS ?_
  walk_at "go"
  refine g_iteD (fun h2 => ?_) (fun h2 => ?_)
  · have h1' := hi.one
    have h4' := hi.four
    walk_at "go"
    rw [show (strsL tg).length = tg.length by simp [strsL]]
    refine draw_ok (n := n + 6) (m := tg.length) hP (by omega) (by omega) fun c l hc hl => ?_
    have hP := pen_put (C := C1) (p := p) hc
    have hO := hO.pen (c := c)
    generalize put C1 p c = C2 at hP hO
    walk_at "go"
    refine draw_ok (n := n + 5) (m := 3) hP (by omega) (by omega) fun c u hc hu => ?_
    have hP := pen_put (C := C2) (p := p) hc
    have hO := hO.pen (c := c)
    generalize put C2 p c = C3 at hP hO
    walk_at "go"
    exact k (.least l u) C3 trivial (show u ≤ 2 by omega) rfl rfl hP.less hO
  walk_at "go"
  refine g_ifS ?_
  walk_at "go"
  refine g_iteD (fun h3 => ?_) (fun h3 => ?_)
  · walk_at "go"
    refine g_lenS (by rw [hjl]; simp only [sizeLine]; omega) ?_
    walk_at "go"
    refine draw_ok (n := n + 6) hP (by omega) (by omega) fun c l hc hl => ?_
    have hP := pen_put (C := C1) (p := p) hc
    have hO := hO.pen (c := c)
    generalize put C1 p c = C2 at hP hO
    walk_at "go"
    refine g_ixO (by omega) hl fun c0 hc0 => ?_
    walk_at "go"
    refine draw_ok (n := n + 5) (m := 2) hP (by omega) (by omega) fun c u hc hu => ?_
    have hP := pen_put (C := C2) (p := p) hc
    have hO := hO.pen (c := c)
    generalize put C2 p c = C3 at hP hO
    walk_at "go"
    refine g_cutSt (by omega) ?_
    have hin : ∀ a ∈ (cutS (Txt.join "" tg) (some ((l : Int) + 1)) (some ((l : Int) + 1 + (u : Int)))).cps.toList, a ∈ zs tg := fun a ha => by
      rw [cutS_l] at ha
      exact List.mem_of_mem_drop (List.mem_of_mem_take ha)
    have hcl : (cutS (Txt.join "" tg) (some ((l : Int) + 1)) (some ((l : Int) + 1 + (u : Int)))).length ≤ u := by
      rw [← AL.len_toList, cutS_l, List.length_take, List.length_drop, show (l : Int) + 1 = ((l + 1 : Nat) : Int) by omega, show ((l + 1 : Nat) : Int) + (u : Int) = ((l + 1 + u : Nat) : Int) by omega, HT.sIx_nat, HT.sIx_nat]
      omega
    generalize cutS (Txt.join "" tg) (some ((l : Int) + 1)) (some ((l : Int) + 1 + (u : Int))) = ct at hin hcl
    refine g_addS (by rw [show (oneS c0).length = 1 from rfl]; simp only [sizeLine]; omega) ?_
    walk_at "go"
    refine draw_ok (n := n + 4) (m := 3) hP (by omega) (by omega) fun c v hc hv => ?_
    have hP := pen_put (C := C3) (p := p) hc
    have hO := hO.pen (c := c)
    generalize put C3 p c = C4 at hP hO
    walk_at "go"
    have hl2 : (oneS c0 ++ ct).length ≤ 2 := by rw [app_len, show (oneS c0).length = 1 from rfl]; omega
    refine k (.often (oneS c0 ++ ct) v) C4 ⟨fun a ha => ?_, by omega⟩ ⟨hl2, by omega⟩ rfl rfl hP.less hO
    rw [app_toList] at ha
    rcases List.mem_append.mp ha with q | q
    · rw [show a = c0 by simpa [oneS] using q]; exact hc0
    · exact hin a q
  walk_at "go"
  refine g_ifS ?_
  walk_at "go"
  refine g_iteD (fun h4 => ?_) (fun h4 => ?_)
  · walk_at "go"
    exact k .apart C1 trivial trivial rfl rfl hP.less hO
  walk_at "go"
  have hw3 : ∃ j, w = j + 5 ∧ j < 3 := ⟨w - 5, by omega, by omega⟩
  obtain ⟨j, rfl, hj⟩ := hw3
  rw [show ((j + 5 : Nat) : Int) - 5 = (j : Int) by omega]
  rcases j with _ | _ | _ | j
  · refine g_ixL (d := .str "without") rfl ?_
    walk_at "go"
    refine text_ok (n := n + 1) (m := 3) h (by omega) (by omega) (hP.less) fun z C3 hz _ hzl hP3 hO3 => ?_
    walk_at "go"
    exact k (.wi z) C3 ⟨hz, by omega⟩ hzl rfl rfl hP3.less (hO.trans hO3)
  · refine g_ixL (d := .str "begins") rfl ?_
    walk_at "go"
    refine text_ok (n := n + 1) (m := 3) h (by omega) (by omega) (hP.less) fun z C3 hz _ hzl hP3 hO3 => ?_
    walk_at "go"
    exact k (.be z) C3 ⟨hz, by omega⟩ hzl rfl rfl hP3.less (hO.trans hO3)
  · refine g_ixL (d := .str "ends") rfl ?_
    walk_at "go"
    refine text_ok (n := n + 1) (m := 3) h (by omega) (by omega) (hP.less) fun z C3 hz _ hzl hP3 hO3 => ?_
    walk_at "go"
    exact k (.en z) C3 ⟨hz, by omega⟩ hzl rfl rfl hP3.less (hO.trans hO3)
  · omega
def cost : Nat → Nat
  | 0 => 8
  | d + 1 => 2 * cost d + 1
theorem sentence_ok {tg : List Str} (h : Tg tg) {p : Addr} : ∀ (d f n : Nat) (C : AH) (P : D → AH → Prop), d < f → Pen (n + cost d) C p → (∀ s C', TxI tg s → Sm s → dp s ≤ d + 1 → lf s ≤ 2 ^ d → Pen n C' p → Oth p C C' → P (sD s) C') → s_law_sentence f [.ce p, .tup (strsL tg), .int ((d + 1 : Nat) : Int)] C P
  | 0, 0, n, C, P, hf, _, _ => absurd hf (Nat.lt_irrefl _)
  | 0, f + 1, n, C, P, _, hp, k => by
    show aBody 5 (a_law_sentence (s_law_sentence f)) _ C P
    unfold a_law_sentence
    walk_at "go"
    refine g_ifF (fun K hK => ?_) ?_
    · walk_at "go"
      exact hK
    walk_at "go"
    refine g_ifF (fun K hK => ?_) ?_
    · walk_at "go"
      exact hK
    walk_at "go"
    refine g_ifF (fun K hK => ?_) ?_
    · walk_at "go"
      exact hK
    walk_at "go"
    exact plain_ok h hp fun s C' a b c e f g => k s C' a b (by omega) (by rw [e]; decide) f g
  | d + 1, 0, n, C, P, hf, _, _ => absurd hf (Nat.not_lt_zero _)
  | d + 1, f + 1, n, C, P, hf, hp, k => by
    have hcost : cost (d + 1) = 2 * cost d + 1 := rfl
    have hc8 : 8 ≤ cost d := by
      clear hcost hp k hf
      induction d with
      | zero => decide
      | succ d ih => show 8 ≤ 2 * cost d + 1; omega
    have h2p : 2 ^ (d + 1) = 2 * 2 ^ d := by rw [Nat.pow_succ]; omega
    have h1p : 1 ≤ 2 ^ d := Nat.one_le_two_pow
    show aBody 5 (a_law_sentence (s_law_sentence f)) _ C P
    unfold a_law_sentence
    walk_at "go"
    refine g_ifT (fun K hK => ?_) ?_
    · walk_at "go"
      rw [decide_eq_true (show (1 : Int) < ((d + 1 + 1 : Nat) : Int) by omega)]
      exact hK
    walk_at "go"
    refine draw_ok (n := n + 2 * cost d) (m := 8) hp (by omega) (by omega) fun c w hc hw => ?_
    have hP := pen_put (C := C) (p := p) hc
    have hO := (Oth.refl p C).pen (c := c)
    generalize put C p c = C1 at hP hO
    have hm1 : ((d + 1 + 1 : Nat) : Int) - 1 = ((d + 1 : Nat) : Int) := by omega
    walk_at "go"
    refine g_ifS ?_
    walk_at "go"
    refine g_iteD (fun h5 => ?_) (fun h5 => ?_)
    · walk_at "go"
      rw [hm1]
      refine sentence_ok h d f (n + cost d) _ _ (by omega) (hP.less) fun s C2 a b c e f g => ?_
      walk_at "go"
      exact k (.nt s) C2 a b (by simp only [dp]; omega) (by simp only [lf]; omega) f.less (hO.trans g)
    walk_at "go"
    refine g_ifS ?_
    walk_at "go"
    refine g_iteD (fun h6 => ?_) (fun h6 => ?_)
    · walk_at "go"
      rw [hm1]
      refine sentence_ok h d f (n + cost d) _ _ (by omega) (hP.less) fun s C2 a b c e f' g => ?_
      walk_at "go"
      have : w = 6 ∨ w = 7 := by omega
      rcases this with rfl | rfl
      · refine g_ixL (d := .str "both") rfl ?_
        walk_at "go"
        rw [hm1]
        refine sentence_ok h d f n _ _ (by omega) f' fun t C3 a2 b2 c2 e2 f2 g2 => ?_
        walk_at "go"
        exact k (.bo s t) C3 ⟨a, a2⟩ ⟨b, b2⟩ (by simp only [dp]; omega) (by simp only [lf]; omega) f2 ((hO.trans g).trans g2)
      · refine g_ixL (d := .str "either") rfl ?_
        walk_at "go"
        rw [hm1]
        refine sentence_ok h d f n _ _ (by omega) f' fun t C3 a2 b2 c2 e2 f2 g2 => ?_
        walk_at "go"
        exact k (.ei s t) C3 ⟨a, a2⟩ ⟨b, b2⟩ (by simp only [dp]; omega) (by simp only [lf]; omega) f2 ((hO.trans g).trans g2)
    walk_at "go"
    exact plain_ok (n := n) h (hP.less) fun s C' a b c e f g => k s C' a b (by omega) (by omega) f (hO.trans g)
end
end A_k39
namespace A_k39
open PySem L2 AL
theorem p14 {a : Nat} (h : a ≤ 8) : 14 ^ a ≤ 1475789056 := Nat.le_trans (Nat.pow_le_pow_right (by decide) h) (by decide)
def wt (tg : List Str) : Sn → Nat
  | .long l none => l + 1
  | .long _ (some u) => u + 2
  | .least _ m => m + 1
  | .often z m => (m + 1) ^ z.length + 1
  | .apart => (zs tg).length + 2
  | .wi z => z.length + 1
  | .be z => z.length + 2
  | .en z => z.length + 1
  | .nt s => wt tg s
  | .bo s t => wt tg s * wt tg t
  | .ei s t => wt tg s * wt tg t
theorem wt_le {tg : List Str} (h : Tg tg) : ∀ s : Sn, Sm s → 1 ≤ wt tg s ∧ wt tg s ≤ 14 ^ lf s
  | .long l none, hS => ⟨Nat.succ_pos _, by have := hS.1; show l + 1 ≤ 14 ^ 1; omega⟩
  | .long l (some u), hS => ⟨Nat.succ_pos _, by have := hS.2 u rfl; show u + 2 ≤ 14 ^ 1; omega⟩
  | .least _ m, hS => ⟨Nat.succ_pos _, by have : m ≤ 2 := hS; show m + 1 ≤ 14 ^ 1; omega⟩
  | .often z m, hS => ⟨Nat.succ_pos _, by
      have h1 : (m + 1) ^ z.length ≤ 3 ^ z.length := Nat.pow_le_pow_left (by have := hS.2; omega) _
      have h2 : 3 ^ z.length ≤ 3 ^ 2 := Nat.pow_le_pow_right (by decide) hS.1
      show (m + 1) ^ z.length + 1 ≤ 14 ^ 1
      omega⟩
  | .apart, _ => ⟨Nat.succ_pos _, by have := h.inv.size; show (zs tg).length + 2 ≤ 14 ^ 1; omega⟩
  | .wi z, hS => ⟨Nat.succ_pos _, by have : z.length ≤ 3 := hS; show z.length + 1 ≤ 14 ^ 1; omega⟩
  | .be z, hS => ⟨Nat.succ_pos _, by have : z.length ≤ 3 := hS; show z.length + 2 ≤ 14 ^ 1; omega⟩
  | .en z, hS => ⟨Nat.succ_pos _, by have : z.length ≤ 3 := hS; show z.length + 1 ≤ 14 ^ 1; omega⟩
  | .nt s, hS => wt_le h s hS
  | .bo s t, hS => ⟨Nat.mul_pos (wt_le h s hS.1).1 (wt_le h t hS.2).1, by show wt tg s * wt tg t ≤ 14 ^ (lf s + lf t); rw [Nat.pow_add]; exact Nat.mul_le_mul (wt_le h s hS.1).2 (wt_le h t hS.2).2⟩
  | .ei s t, hS => ⟨Nat.mul_pos (wt_le h s hS.1).1 (wt_le h t hS.2).1, by show wt tg s * wt tg t ≤ 14 ^ (lf s + lf t); rw [Nat.pow_add]; exact Nat.mul_le_mul (wt_le h s hS.1).2 (wt_le h t hS.2).2⟩
theorem weight_ok {tg : List Str} (h : Tg tg) : ∀ (s : Sn) (n : Nat), Sm s → dp s ≤ n → lf s ≤ 8 → ∀ C P, P (.int (wt tg s : Nat)) C → s_law_weight n [.tup (strsL tg), sD s] C P
  | .nt s, n, hS, hd, h8 => by
    obtain ⟨n, rfl⟩ : ∃ m, n = m + 1 := ⟨n - 1, by simp only [dp] at hd; omega⟩
    intro C P k
    show aBody 5 (a_law_weight (s_law_weight n)) [.tup (strsL tg), .tup [.str "not", sD s]] C P
    unfold a_law_weight
    walk_at "go"
    refine g_ifT (fun K hK => ?_) ?_
    · walk_at "go"
      exact hK
    walk_at "go"
    exact weight_ok h s n hS (by simp only [dp] at hd; omega) h8 C P k
  | .bo s t, n, hS, hd, h8 => by
    obtain ⟨n, rfl⟩ : ∃ m, n = m + 1 := ⟨n - 1, by simp only [dp] at hd; omega⟩
    intro C P k
    show aBody 5 (a_law_weight (s_law_weight n)) [.tup (strsL tg), .tup [.str "both", sD s, sD t]] C P
    unfold a_law_weight
    walk_at "go"
    refine g_ifF (fun K hK => ?_) ?_
    · walk_at "go"
      exact hK
    walk_at "go"
    refine g_ifT (fun K hK => ?_) ?_
    · walk_at "go"
      refine g_inC ["both", "either"] (b := true) (by decide +kernel) ?_
      walk_at "go"
      exact hK
    walk_at "go"
    have l1 := lf_pos s
    have l2 := lf_pos t
    simp only [lf] at h8
    have b1 := Nat.le_trans (wt_le h s hS.1).2 (p14 (a := lf s) (by omega))
    have b2 := Nat.le_trans (wt_le h t hS.2).2 (p14 (a := lf t) (by omega))
    have k : P (.int ((wt tg s * wt tg t : Nat) : Int)) C := k
    refine weight_ok h s n hS.1 (by simp only [dp] at hd; omega) (by omega) _ _ ?_
    walk_at "go"
    refine weight_ok h t n hS.2 (by simp only [dp] at hd; omega) (by omega) _ _ ?_
    generalize wt tg s = w1 at b1 k
    generalize wt tg t = w2 at b2 k
    walk_at "go"
    rw [show ((w1 : Nat) : Int) * ((w2 : Nat) : Int) = ((w1 * w2 : Nat) : Int) by rw [Int.natCast_mul]]
    exact k
  | .ei s t, n, hS, hd, h8 => by
    obtain ⟨n, rfl⟩ : ∃ m, n = m + 1 := ⟨n - 1, by simp only [dp] at hd; omega⟩
    intro C P k
    show aBody 5 (a_law_weight (s_law_weight n)) [.tup (strsL tg), .tup [.str "either", sD s, sD t]] C P
    unfold a_law_weight
    walk_at "go"
    refine g_ifF (fun K hK => ?_) ?_
    · walk_at "go"
      exact hK
    walk_at "go"
    refine g_ifT (fun K hK => ?_) ?_
    · walk_at "go"
      refine g_inC ["both", "either"] (b := true) (by decide +kernel) ?_
      walk_at "go"
      exact hK
    walk_at "go"
    have l1 := lf_pos s
    have l2 := lf_pos t
    simp only [lf] at h8
    have b1 := Nat.le_trans (wt_le h s hS.1).2 (p14 (a := lf s) (by omega))
    have b2 := Nat.le_trans (wt_le h t hS.2).2 (p14 (a := lf t) (by omega))
    have k : P (.int ((wt tg s * wt tg t : Nat) : Int)) C := k
    refine weight_ok h s n hS.1 (by simp only [dp] at hd; omega) (by omega) _ _ ?_
    walk_at "go"
    refine weight_ok h t n hS.2 (by simp only [dp] at hd; omega) (by omega) _ _ ?_
    generalize wt tg s = w1 at b1 k
    generalize wt tg t = w2 at b2 k
    walk_at "go"
    rw [show ((w1 : Nat) : Int) * ((w2 : Nat) : Int) = ((w1 * w2 : Nat) : Int) by rw [Int.natCast_mul]]
    exact k
  | .long l none, n, hS, hd, h8 => by
    obtain ⟨n, rfl⟩ : ∃ m, n = m + 1 := ⟨n - 1, by simp only [dp] at hd; omega⟩
    intro C P k
    show aBody 5 (a_law_weight (s_law_weight n)) [.tup (strsL tg), .tup [.str "long", .int (l : Nat), .non]] C P
    unfold a_law_weight
    walk_at "go"
    refine g_ifF (fun K hK => ?_) ?_
    · walk_at "go"
      exact hK
    walk_at "go"
    refine g_ifF (fun K hK => ?_) ?_
    · walk_at "go"
      refine g_inC ["both", "either"] (b := false) (by decide +kernel) ?_
      walk_at "go"
      exact hK
    walk_at "go"
    refine g_ifT (fun K hK => ?_) ?_
    · walk_at "go"
      refine g_iteD (fun _ => ?_) (fun z => absurd rfl z)
      walk_at "go"
      exact hK
    walk_at "go"
    have := hS.1
    rw [show (l : Int) + 1 = ((l + 1 : Nat) : Int) by omega]
    exact k
  | .long l (some u), n, hS, hd, h8 => by
    obtain ⟨n, rfl⟩ : ∃ m, n = m + 1 := ⟨n - 1, by simp only [dp] at hd; omega⟩
    intro C P k
    show aBody 5 (a_law_weight (s_law_weight n)) [.tup (strsL tg), .tup [.str "long", .int (l : Nat), .int (u : Nat)]] C P
    unfold a_law_weight
    walk_at "go"
    refine g_ifF (fun K hK => ?_) ?_
    · walk_at "go"
      exact hK
    walk_at "go"
    refine g_ifF (fun K hK => ?_) ?_
    · walk_at "go"
      refine g_inC ["both", "either"] (b := false) (by decide +kernel) ?_
      walk_at "go"
      exact hK
    walk_at "go"
    refine g_ifF (fun K hK => ?_) ?_
    · walk_at "go"
      refine g_iteD (fun _ => ?_) (fun z => absurd rfl z)
      walk_at "go"
      exact hK
    walk_at "go"
    refine g_ifT (fun K hK => ?_) ?_
    · walk_at "go"
      refine g_inC ["long", "least"] (b := true) (by decide +kernel) ?_
      walk_at "go"
      exact hK
    walk_at "go"
    have := hS.2 u rfl
    rw [show (if decide ((Str.ofString "long" : Str) = Str.ofString "long") = true then (1 : Int) else 0) = 1 by rw [if_pos (by decide +kernel)]]
    refine g_ixL (d := .int 2) rfl ?_
    walk_at "go"
    rw [show (u : Int) + 2 = ((u + 2 : Nat) : Int) by omega]
    exact k
  | .least a m, n, hS, hd, h8 => by
    obtain ⟨n, rfl⟩ : ∃ m, n = m + 1 := ⟨n - 1, by simp only [dp] at hd; omega⟩
    intro C P k
    show aBody 5 (a_law_weight (s_law_weight n)) [.tup (strsL tg), .tup [.str "least", .int (a : Nat), .int (m : Nat)]] C P
    unfold a_law_weight
    walk_at "go"
    refine g_ifF (fun K hK => ?_) ?_
    · walk_at "go"
      exact hK
    walk_at "go"
    refine g_ifF (fun K hK => ?_) ?_
    · walk_at "go"
      refine g_inC ["both", "either"] (b := false) (by decide +kernel) ?_
      walk_at "go"
      exact hK
    walk_at "go"
    refine g_ifF (fun K hK => ?_) ?_
    · walk_at "go"
      refine g_iteD (fun z => absurd z (by decide +kernel)) (fun _ => ?_)
      exact hK
    walk_at "go"
    refine g_ifT (fun K hK => ?_) ?_
    · walk_at "go"
      refine g_inC ["long", "least"] (b := true) (by decide +kernel) ?_
      walk_at "go"
      exact hK
    walk_at "go"
    have : m ≤ 2 := hS
    rw [show (if decide ((Str.ofString "least" : Str) = Str.ofString "long") = true then (1 : Int) else 0) = 0 by rw [if_neg (by decide +kernel)]]
    refine g_ixL (d := .int 1) rfl ?_
    walk_at "go"
    rw [show (m : Int) + 1 = ((m + 1 : Nat) : Int) by omega]
    exact k
  | .often z m, n, hS, hd, h8 => by
    obtain ⟨n, rfl⟩ : ∃ m, n = m + 1 := ⟨n - 1, by simp only [dp] at hd; omega⟩
    intro C P k
    show aBody 5 (a_law_weight (s_law_weight n)) [.tup (strsL tg), .tup [.str "often", .str z, .int (m : Nat)]] C P
    unfold a_law_weight
    walk_at "go"
    refine g_ifF (fun K hK => ?_) ?_
    · walk_at "go"
      exact hK
    walk_at "go"
    refine g_ifF (fun K hK => ?_) ?_
    · walk_at "go"
      refine g_inC ["both", "either"] (b := false) (by decide +kernel) ?_
      walk_at "go"
      exact hK
    walk_at "go"
    refine g_ifF (fun K hK => ?_) ?_
    · walk_at "go"
      refine g_iteD (fun z => absurd z (by decide +kernel)) (fun _ => ?_)
      exact hK
    walk_at "go"
    refine g_ifF (fun K hK => ?_) ?_
    · walk_at "go"
      refine g_inC ["long", "least"] (b := false) (by decide +kernel) ?_
      walk_at "go"
      exact hK
    walk_at "go"
    refine g_ifT (fun K hK => ?_) ?_
    · walk_at "go"
      exact hK
    walk_at "go"
    obtain ⟨hz2, hm2⟩ := hS
    have hll : z.cps.toList.length = z.length := AL.len_toList z
    refine g_kForL (fun i st C' => ∃ (w : Nat) (x4 : Option D), w = (m + 1) ^ i ∧ w ≤ 3 ^ i ∧ C' = C ∧ st = [some (.tup (strsL tg)), some (.tup [.str "often", .str z, .int (m : Nat)]), some (.str "often"), some (.int (w : Nat)), x4]) ⟨1, _, by simp, by simp, rfl, rfl⟩ (fun i d st C' hi hw => ?_) (fun st C' hw => ?_)
    · obtain ⟨w, x4, hw1, hw2, rfl, rfl⟩ := hw
      have hil : i < z.length := by
        have := (List.getElem?_eq_some_iff.mp hi).1
        unfold signs at this
        rw [List.length_map] at this
        omega
      have h9 : w ≤ 9 := Nat.le_trans hw2 (Nat.le_trans (Nat.pow_le_pow_right (by decide) (show i ≤ 2 by omega)) (by decide))
      walk_at "go"
      rw [show ((w : Nat) : Int) * ((m : Int) + 1) = ((w * (m + 1) : Nat) : Int) by rw [Int.natCast_mul]; rfl]
      refine ⟨w * (m + 1), _, by rw [hw1, Nat.pow_succ], ?_, rfl, rfl⟩
      rw [Nat.pow_succ]
      exact Nat.mul_le_mul hw2 (by omega)
    · obtain ⟨w, x4, hw1, hw2, rfl, rfl⟩ := hw
      have hsl : (signs z).length = z.length := by unfold signs; rw [List.length_map]; exact hll
      rw [hsl] at hw1 hw2
      have h9 : w ≤ 9 := Nat.le_trans hw2 (Nat.le_trans (Nat.pow_le_pow_right (by decide) hz2) (by decide))
      walk_at "go"
      rw [show (w : Int) + 1 = ((w + 1 : Nat) : Int) by omega, hw1]
      exact k
  | .apart, n, hS, hd, h8 => by
    obtain ⟨n, rfl⟩ : ∃ m, n = m + 1 := ⟨n - 1, by simp only [dp] at hd; omega⟩
    intro C P k
    show aBody 5 (a_law_weight (s_law_weight n)) [.tup (strsL tg), .tup [.str "apart"]] C P
    unfold a_law_weight
    walk_at "go"
    refine g_ifF (fun K hK => ?_) ?_
    · walk_at "go"
      exact hK
    walk_at "go"
    refine g_ifF (fun K hK => ?_) ?_
    · walk_at "go"
      refine g_inC ["both", "either"] (b := false) (by decide +kernel) ?_
      walk_at "go"
      exact hK
    walk_at "go"
    refine g_ifF (fun K hK => ?_) ?_
    · walk_at "go"
      refine g_iteD (fun z => absurd z (by decide +kernel)) (fun _ => ?_)
      exact hK
    walk_at "go"
    refine g_ifF (fun K hK => ?_) ?_
    · walk_at "go"
      refine g_inC ["long", "least"] (b := false) (by decide +kernel) ?_
      walk_at "go"
      exact hK
    walk_at "go"
    refine g_ifF (fun K hK => ?_) ?_
    · walk_at "go"
      exact hK
    walk_at "go"
    refine g_ifT (fun K hK => ?_) ?_
    · walk_at "go"
      exact hK
    walk_at "go"
    have h12 := h.inv.size
    have hjl : (Txt.join "" tg).length = (zs tg).length := (AL.len_toList _).symm
    refine g_joinT h.sz ?_
    walk_at "go"
    refine g_lenS (by rw [hjl]; simp only [sizeLine]; omega) ?_
    walk_at "go"
    rw [hjl, show ((zs tg).length : Int) + 2 = (((zs tg).length + 2 : Nat) : Int) by omega]
    exact k
  | .wi z, n, hS, hd, h8 => by
    obtain ⟨n, rfl⟩ : ∃ m, n = m + 1 := ⟨n - 1, by simp only [dp] at hd; omega⟩
    intro C P k
    show aBody 5 (a_law_weight (s_law_weight n)) [.tup (strsL tg), .tup [.str "without", .str z]] C P
    unfold a_law_weight
    walk_at "go"
    refine g_ifF (fun K hK => ?_) ?_
    · walk_at "go"
      exact hK
    walk_at "go"
    refine g_ifF (fun K hK => ?_) ?_
    · walk_at "go"
      refine g_inC ["both", "either"] (b := false) (by decide +kernel) ?_
      walk_at "go"
      exact hK
    walk_at "go"
    refine g_ifF (fun K hK => ?_) ?_
    · walk_at "go"
      refine g_iteD (fun z => absurd z (by decide +kernel)) (fun _ => ?_)
      exact hK
    walk_at "go"
    refine g_ifF (fun K hK => ?_) ?_
    · walk_at "go"
      refine g_inC ["long", "least"] (b := false) (by decide +kernel) ?_
      walk_at "go"
      exact hK
    walk_at "go"
    refine g_ifF (fun K hK => ?_) ?_
    · walk_at "go"
      exact hK
    walk_at "go"
    refine g_ifF (fun K hK => ?_) ?_
    · walk_at "go"
      exact hK
    walk_at "go"
    have : z.length ≤ 3 := hS
    refine g_lenS (by simp only [sizeLine]; omega) ?_
    walk_at "go"
    rw [show (if decide ((Str.ofString "without" : Str) = Str.ofString "begins") = true then (1 : Int) else 0) = 0 by rw [if_neg (by decide +kernel)]]
    refine g_ixL (d := .int 1) rfl ?_
    walk_at "go"
    rw [show (z.length : Int) + 1 = ((z.length + 1 : Nat) : Int) by omega]
    exact k
  | .be z, n, hS, hd, h8 => by
    obtain ⟨n, rfl⟩ : ∃ m, n = m + 1 := ⟨n - 1, by simp only [dp] at hd; omega⟩
    intro C P k
    show aBody 5 (a_law_weight (s_law_weight n)) [.tup (strsL tg), .tup [.str "begins", .str z]] C P
    unfold a_law_weight
    walk_at "go"
    refine g_ifF (fun K hK => ?_) ?_
    · walk_at "go"
      exact hK
    walk_at "go"
    refine g_ifF (fun K hK => ?_) ?_
    · walk_at "go"
      refine g_inC ["both", "either"] (b := false) (by decide +kernel) ?_
      walk_at "go"
      exact hK
    walk_at "go"
    refine g_ifF (fun K hK => ?_) ?_
    · walk_at "go"
      refine g_iteD (fun z => absurd z (by decide +kernel)) (fun _ => ?_)
      exact hK
    walk_at "go"
    refine g_ifF (fun K hK => ?_) ?_
    · walk_at "go"
      refine g_inC ["long", "least"] (b := false) (by decide +kernel) ?_
      walk_at "go"
      exact hK
    walk_at "go"
    refine g_ifF (fun K hK => ?_) ?_
    · walk_at "go"
      exact hK
    walk_at "go"
    refine g_ifF (fun K hK => ?_) ?_
    · walk_at "go"
      exact hK
    walk_at "go"
    have : z.length ≤ 3 := hS
    refine g_lenS (by simp only [sizeLine]; omega) ?_
    walk_at "go"
    rw [show (if decide ((Str.ofString "begins" : Str) = Str.ofString "begins") = true then (1 : Int) else 0) = 1 by rw [if_pos (by decide +kernel)]]
    refine g_ixL (d := .int 2) rfl ?_
    walk_at "go"
    rw [show (z.length : Int) + 2 = ((z.length + 2 : Nat) : Int) by omega]
    exact k
  | .en z, n, hS, hd, h8 => by
    obtain ⟨n, rfl⟩ : ∃ m, n = m + 1 := ⟨n - 1, by simp only [dp] at hd; omega⟩
    intro C P k
    show aBody 5 (a_law_weight (s_law_weight n)) [.tup (strsL tg), .tup [.str "ends", .str z]] C P
    unfold a_law_weight
    walk_at "go"
    refine g_ifF (fun K hK => ?_) ?_
    · walk_at "go"
      exact hK
    walk_at "go"
    refine g_ifF (fun K hK => ?_) ?_
    · walk_at "go"
      refine g_inC ["both", "either"] (b := false) (by decide +kernel) ?_
      walk_at "go"
      exact hK
    walk_at "go"
    refine g_ifF (fun K hK => ?_) ?_
    · walk_at "go"
      refine g_iteD (fun z => absurd z (by decide +kernel)) (fun _ => ?_)
      exact hK
    walk_at "go"
    refine g_ifF (fun K hK => ?_) ?_
    · walk_at "go"
      refine g_inC ["long", "least"] (b := false) (by decide +kernel) ?_
      walk_at "go"
      exact hK
    walk_at "go"
    refine g_ifF (fun K hK => ?_) ?_
    · walk_at "go"
      exact hK
    walk_at "go"
    refine g_ifF (fun K hK => ?_) ?_
    · walk_at "go"
      exact hK
    walk_at "go"
    have : z.length ≤ 3 := hS
    refine g_lenS (by simp only [sizeLine]; omega) ?_
    walk_at "go"
    rw [show (if decide ((Str.ofString "ends" : Str) = Str.ofString "begins") = true then (1 : Int) else 0) = 0 by rw [if_neg (by decide +kernel)]]
    refine g_ixL (d := .int 1) rfl ?_
    walk_at "go"
    rw [show (z.length : Int) + 1 = ((z.length + 1 : Nat) : Int) by omega]
    exact k
end A_k39
namespace A_k39
open PySem L2 AL PySem.Spec PyProof.Rows
theorem ltc_one (a b : Nat) : ltCps (oneS a).cps.toList (oneS b).cps.toList = decide (a < b) := by
  show (decide (a < b) || (a == b && ltCps [] [])) = decide (a < b)
  rw [show ltCps [] [] = false from rfl, Bool.and_false, Bool.or_false]
theorem ris_pair : ∀ (M : List Nat) (p : Nat), risingS (oneS p) (M.map oneS) = true → (p :: M).Pairwise (· ≤ ·)
  | [], p, _ => List.pairwise_singleton ..
  | x :: M, p, h => by
    have h : (!ltCps (oneS x).cps.toList (oneS p).cps.toList && risingS (oneS x) (M.map oneS)) = true := h
    rw [ltc_one, Bool.and_eq_true] at h
    have h1 : p ≤ x := by have := h.1; simpa using this
    have h2 := ris_pair M x h.2
    refine List.pairwise_cons.mpr ⟨fun a ha => ?_, h2⟩
    rcases List.mem_cons.mp ha with z | z
    · rw [z]; exact h1
    · exact Nat.le_trans h1 ((List.pairwise_cons.mp h2).1 a z)
theorem srt_pair {M : List Nat} (h : sortedS (M.map oneS) = true) : M.Pairwise (· ≤ ·) := by
  cases M with
  | nil => exact List.Pairwise.nil
  | cons p M => exact ris_pair M p h
def codeS (y : Str) : Nat := y.cps.getD 0 0
theorem sorted_inv {z : Str} {ys : List Str} (h : ys.Perm (chars z)) (hs : sortedS ys = true) : ∃ M : List Nat, ys = M.map oneS ∧ M.Perm (cs z) ∧ M.Pairwise (· ≤ ·) := by
  have hch : chars z = (cs z).map oneS := rfl
  have e : (ys.map codeS).map oneS = ys := by
    rw [List.map_map]
    conv => rhs; rw [← List.map_id ys]
    refine List.map_congr_left fun y hy => ?_
    have := h.mem_iff.mp hy
    rw [hch] at this
    obtain ⟨c, _, rfl⟩ := List.mem_map.mp this
    rfl
  refine ⟨ys.map codeS, e.symm, ?_, srt_pair (by rw [e]; exact hs)⟩
  have := h.map codeS
  rw [hch, List.map_map] at this
  have e2 : (cs z).map (codeS ∘ oneS) = cs z := by
    conv => rhs; rw [← List.map_id (cs z)]
    exact List.map_congr_left fun c _ => rfl
  rw [e2] at this
  exact this
theorem srt_uniq {M N : List Nat} (h : M.Perm N) (hm : M.Pairwise (· ≤ ·)) (hn : N.Pairwise (· ≤ ·)) : M = N :=
  List.Perm.eq_of_pairwise (fun a b _ _ h1 h2 => Nat.le_antisymm h1 h2) hm hn h
def kd (M : List Nat) : D := .lst ((M.map oneS).map D.str)
def pkd (M : List Nat) : PyData := .list (M.map fun c => .str (oneS c))
theorem pdL_one : ∀ M : List Nat, pdL ((M.map oneS).map D.str) = some (M.map fun c => PyData.str (oneS c))
  | [] => rfl
  | c :: M => by
    show (match D.pd (.str (oneS c)), pdL ((M.map oneS).map D.str) with | some x, some xs => some (x :: xs) | _, _ => none) = _
    rw [pdL_one M]
    rfl
theorem pd_kd (M : List Nat) : D.pd (kd M) = some (pkd M) := by
  show (pdL ((M.map oneS).map D.str)).map PyData.list = _
  rw [pdL_one]
  rfl
theorem pdL_kd : ∀ Ms : List (List Nat), pdL (Ms.map kd) = some (Ms.map pkd)
  | [] => rfl
  | M :: Ms => by
    show (match D.pd (kd M), pdL (Ms.map kd) with | some x, some xs => some (x :: xs) | _, _ => none) = _
    rw [pd_kd, pdL_kd Ms]
    rfl
theorem one_inj {a b : Nat} : oneS a = oneS b ↔ a = b := ⟨fun h => by
  have := congrArg (fun z : Str => z.cps.toList) h
  simpa [oneS] using this, fun h => by rw [h]⟩
theorem eqv_one : ∀ M N : List Nat, PyData.eqvAll (M.map fun c => .str (oneS c)) (N.map fun c => .str (oneS c)) = decide (M = N)
  | [], [] => by simp [PyData.eqvAll]
  | [], _ :: _ => by simp [PyData.eqvAll]
  | _ :: _, [] => by simp [PyData.eqvAll]
  | a :: M, b :: N => by
    rw [List.map_cons, List.map_cons, PyData.eqvAll, eqv_one M N, PyData.eqv]
    rw [Bool.eq_iff_iff]
    simp only [Bool.and_eq_true, beq_iff_eq, decide_eq_true_eq, List.cons.injEq, one_inj]
theorem eqv_kd : ∀ Ms Ns : List (List Nat), PyData.eqvAll (Ms.map pkd) (Ns.map pkd) = decide (Ms = Ns)
  | [], [] => by simp [PyData.eqvAll]
  | [], _ :: _ => by simp [PyData.eqvAll]
  | _ :: _, [] => by simp [PyData.eqvAll]
  | a :: M, b :: N => by
    rw [List.map_cons, List.map_cons, PyData.eqvAll, eqv_kd M N]
    have : PyData.eqv (pkd a) (pkd b) = decide (a = b) := by unfold pkd; rw [PyData.eqv, eqv_one]
    rw [this, Bool.eq_iff_iff]
    simp only [Bool.and_eq_true, decide_eq_true_eq, List.cons.injEq]
theorem ok_kd (Ms : List (List Nat)) (h : ∀ M ∈ Ms, ∀ c ∈ M, c < 128) : okD (.lst (Ms.map kd)) 3 = true := by
  have hs : ∀ M ∈ Ms, ∀ d ∈ (M.map oneS).map D.str, okD d 1 = true := fun M hM d hd => by
    obtain ⟨y, hy, rfl⟩ := List.mem_map.mp hd
    obtain ⟨c, hc, rfl⟩ := List.mem_map.mp hy
    have := h M hM c hc
    show (oneS c).cps.all (· < 0x110000) = true
    simp [oneS]
    omega
  have hk : ∀ d ∈ Ms.map kd, okD d 2 = true := fun d hd => by
    obtain ⟨M, hM, rfl⟩ := List.mem_map.mp hd
    simp only [kd, okD]
    exact okL_all.mpr (hs M hM)
  simp only [okD]
  exact okL_all.mpr hk
/-- the sorted kinds of a tongue -/
def Srt : List Str → List (List Nat) → Prop
  | [], [] => True
  | y :: l, M :: Ms => (M.Perm (cs y) ∧ M.Pairwise (· ≤ ·)) ∧ Srt l Ms
  | _, _ => False
theorem Srt.snoc : ∀ {l : List Str} {Ms : List (List Nat)}, Srt l Ms → ∀ {y : Str} {M : List Nat}, M.Perm (cs y) → M.Pairwise (· ≤ ·) → Srt (l ++ [y]) (Ms ++ [M])
  | [], [], _, y, M, h1, h2 => ⟨⟨h1, h2⟩, trivial⟩
  | x :: l, N :: Ms, g, y, M, h1, h2 => ⟨g.1, Srt.snoc g.2 h1 h2⟩
  | [], _ :: _, h, _, _, _, _ => h.elim
  | _ :: _, [], h, _, _, _, _ => h.elim
theorem Srt.iff : ∀ {l m : List Str} {Ms Ns : List (List Nat)}, Srt l Ms → Srt m Ns → (Ms = Ns ↔ Like l m)
  | [], [], [], [], _, _ => by simp [Like]
  | [], _ :: _, [], _ :: _, _, _ => by simp [Like]
  | _ :: _, [], _ :: _, [], _, _ => by simp [Like]
  | y :: l, z :: m, M :: Ms, N :: Ns, h, g => by
    rw [List.cons.injEq]
    have ih := Srt.iff h.2 g.2
    constructor
    · rintro ⟨h1, h2⟩
      refine ⟨?_, ih.mp h2⟩
      exact h.1.1.symm.trans (h1 ▸ g.1.1)
    · rintro ⟨h1, h2⟩
      exact ⟨srt_uniq (h.1.1.trans (h1.trans g.1.1.symm)) h.1.2 g.1.2, ih.mpr h2⟩
  | [], _, _ :: _, _, h, _ => h.elim
  | _ :: _, _, [], _, h, _ => h.elim
  | _, [], _, _ :: _, _, h => h.elim
  | _, _ :: _, _, [], _, h => h.elim
theorem Srt.len : ∀ {l : List Str} {Ms : List (List Nat)}, Srt l Ms → l.length = Ms.length
  | [], [], _ => rfl
  | _ :: _, _ :: _, h => by rw [List.length_cons, List.length_cons, Srt.len h.2]
  | [], _ :: _, h => h.elim
  | _ :: _, [], h => h.elim
theorem Srt.mem : ∀ {l : List Str} {Ms : List (List Nat)}, Srt l Ms → ∀ M ∈ Ms, ∃ y ∈ l, M.Perm (cs y)
  | [], [], _, M, hM => by cases hM
  | y :: l, N :: Ms, h, M, hM => by
    rcases List.mem_cons.mp hM with z | z
    · rw [z]; exact ⟨y, by simp, h.1.1⟩
    · obtain ⟨x, hx, hp⟩ := Srt.mem h.2 M z
      exact ⟨x, List.mem_cons_of_mem _ hx, hp⟩
  | [], _ :: _, h, _, _ => h.elim
  | _ :: _, [], h, _, _ => h.elim
theorem Srt.small {l : List Str} {Ms : List (List Nat)} (h : Srt l Ms) (hi : TgI l) : ∀ M ∈ Ms, ∀ c ∈ M, c < 128 := fun M hM c hc => by
  obtain ⟨y, hy, hp⟩ := h.mem M hM
  have := hi.good c (in_zs hy (hp.mem_iff.mp hc))
  simp only [A_k39.T.goodB, Bool.and_eq_true, decide_eq_true_eq] at this
  omega
theorem tgB_inv {d : D} (h : A_k39.T.tgB d = true) : ∃ og, d = .tup (strsL og) ∧ Tg og := by
  cases d with
  | tup ds =>
    have h0 := h
    have h : (decide (1 ≤ ds.length) && decide (ds.length ≤ 4) && ds.all A_k39.T.kndB && (decide ((A_k39.T.Z ds).length ≤ 12) && decide ((A_k39.T.Z ds).Nodup) && (A_k39.T.Z ds).all A_k39.T.goodB)) = true := h
    simp only [Bool.and_eq_true] at h
    obtain ⟨xs, rfl, _⟩ := A_k39.T.knd_strs h.1.2
    exact ⟨xs, rfl, h0⟩
  | _ => cases h
section
variable {C : AH} {P : D → AH → Prop}
theorem sorted_ok {tg : List Str} (h : ∀ y ∈ tg, y.length ≤ 6) (h4 : tg.length ≤ 4) {s : ASt} {j : Nat} {vs : List Nat} {fin : List D → AH → Prop} (hj : ∀ d : D, ((wipeA s vs).set j (some d))[j]? = some (some d)) (k : ∀ Ms, Srt tg Ms → fin (Ms.map kd) C) :
    kLc (aGName j) aYes (aCall (aSortT false) (aCons (aVar j) aNil)) vs fin s (strsL tg) (fun _ => True) C := by
  refine g_kLc (fun i acc C' => ∃ Ms, acc = Ms.map kd ∧ Srt (tg.take i) Ms ∧ C' = C) (by simp only [strsL, List.length_map, sizeLine]; omega) ⟨[], rfl, trivial, rfl⟩ (fun i d acc C' hi hw => ?_) (fun acc C' hw => ?_)
  · obtain ⟨Ms, rfl, hS, rfl⟩ := hw
    unfold strsL at hi
    rw [List.getElem?_map] at hi
    cases e : tg[i]? with
    | none => rw [e] at hi; cases hi
    | some y =>
    rw [e] at hi
    cases hi
    have hy := h y (List.mem_of_getElem? e)
    refine g_gname' rfl ?_
    refine g_yes ?_
    show (if true = true then _ else _)
    rw [if_pos rfl]
    refine g_call ?_
    refine g_cons (g_var (hj _) ?_)
    refine g_nil ?_
    refine ⟨by show y.length ≤ sizeLine; simp only [sizeLine]; omega, fun ys hp hs => ?_⟩
    rw [if_neg Bool.false_ne_true]
    obtain ⟨M, rfl, h1, h2⟩ := sorted_inv hp hs
    refine ⟨Ms ++ [M], by rw [List.map_append]; rfl, ?_, rfl⟩
    rw [List.take_add_one, e]
    exact hS.snoc h1 h2
  · obtain ⟨Ms, rfl, hS, rfl⟩ := hw
    rw [show (strsL tg).length = tg.length by simp [strsL], List.take_length] at hS
    exact k Ms hS
theorem table_ok {tg : List Str} (h : Tg tg) {d : D} {n : Nat} (hd : okR d n = true) (hb : blk d ≤ 8000) {PX : Str → AH → Prop}
    (k1 : ∀ og es, d = .tup (strsL og) → Tg og → Like tg og → (∀ c ∈ zs tg, valD es (.inr ⟨#[c]⟩) = some (.str ⟨#[rh tg og c]⟩)) → P (.dk es) C)
    (k2 : (¬ ∃ og, d = .tup (strsL og) ∧ Like tg og) → PX "NoTongue" C) : s_table_of [.tup (strsL tg), d] C P PX := by
  have hi := h.inv
  unfold s_table_of
  refine g_bodyX rfl ?_
  unfold a_table_of
  walk_at "go"
  refine A_k39.T.is_tongue_ok hd hb ?_
  cases hg : A_k39.T.tgB d with
  | false =>
    refine g_kAnd (fun z => nomatch z) (fun _ => ?_)
    walk_at "go"
    refine g_ifT (fun K hK => ?_) ?_
    · walk_at "go"
      exact hK
    refine g_raise (k2 fun ⟨og, e, hL⟩ => ?_)
    have := h.like hL
    subst e
    rw [show A_k39.T.tgB (.tup (strsL og)) = true from this] at hg
    cases hg
  | true =>
    obtain ⟨og, rfl, g⟩ := tgB_inv hg
    have gi := g.inv
    refine g_kAnd (fun _ => ?_) (fun z => nomatch z)
    walk_at "go"
    rw [show (strsL og).length = og.length by simp [strsL], show (strsL tg).length = tg.length by simp [strsL]]
    by_cases hl : og.length = tg.length
    rotate_left
    · rw [decide_eq_false (show ¬ ((og.length : Int) = (tg.length : Int)) by omega)]
      walk_at "go"
      refine g_ifT (fun K hK => ?_) ?_
      · walk_at "go"
        exact hK
      refine g_raise (k2 fun ⟨og', e, hL⟩ => hl ?_)
      have e2 : og' = og := by
        have := D.tup.inj e
        unfold strsL at this
        exact ((List.map_inj_right fun a b hab => D.str.inj hab).mp this).symm
      rw [← e2]
      exact hL.len.symm
    rw [decide_eq_true (show (og.length : Int) = (tg.length : Int) by omega)]
    walk_at "go"
    refine g_ifS ?_
    walk_at "go"
    refine sorted_ok (fun y hy => (hi.len y hy).2) hi.four (fun d => rfl) fun Ms hMs => ?_
    walk_at "go"
    refine sorted_ok (fun y hy => (gi.len y hy).2) gi.four (fun d => rfl) fun Ns hNs => ?_
    have hiff := hMs.iff hNs
    have hsm : ∀ {t : List Str} {Ms : List (List Nat)}, TgI t → Srt t Ms → SeqAt.shaped (.list (Ms.map pkd)) = true := fun {t Ms} ht hS => by
      obtain ⟨x, h1, h2, _⟩ := okD_shaped (ok_kd Ms (hS.small ht)) (by omega)
      have : D.pd (.lst (Ms.map kd)) = some (.list (Ms.map pkd)) := by
        show (pdL (Ms.map kd)).map PyData.list = _
        rw [pdL_kd]; rfl
      rw [this] at h1
      cases h1
      exact h2
    refine g_neP rfl (u := .list (Ms.map pkd)) (v := .list (Ns.map pkd)) (by show (pdL (Ms.map kd)).map PyData.list = _; rw [pdL_kd]; rfl) (by show (pdL (Ns.map kd)).map PyData.list = _; rw [pdL_kd]; rfl) (hsm hi hMs) (hsm gi hNs) ?_
    rw [PyData.eqv, eqv_kd]
    by_cases hL : Like tg og
    · rw [decide_eq_true (hiff.mpr hL)]
      walk_at "go"
      refine signs_of_ok h ?_
      walk_at "go"
      refine signs_of_ok g ?_
      walk_at "go"
      refine g_kDictZ (by have := hi.size; show (zs tg).length ≤ 4000; omega) ?_
      exact k1 og _ rfl g hL fun c hc => table_val hi.nd hL.perm.length_eq hc
    · rw [decide_eq_false (fun z => hL (hiff.mp z))]
      walk_at "go"
      refine k2 fun ⟨og', e, hL'⟩ => hL ?_
      have e2 : og' = og := by
        have := D.tup.inj e
        unfold strsL at this
        exact ((List.map_inj_right fun a b hab => D.str.inj hab).mp this).symm
      rw [← e2]
      exact hL'
end
end A_k39
namespace A_k39
open PySem L2 AL
def ruD (tg : List Str) (ss : List Sn) : D := .tup [.tup (strsL tg), .tup (ss.map sD)]
structure Ss (tg : List Str) (ss : List Sn) : Prop where
  tx : ∀ s ∈ ss, TxI tg s
  dp : ∀ s ∈ ss, dp s ≤ 8
  few : ss.length ≤ 10
section
variable {C : AH} {P : D → AH → Prop} {PX : Str → AH → Prop}
theorem xword_ok {tg : List Str} (h : Tg tg) {d : D} {n : Nat} (hd : okR d n = true) (hb : blk d ≤ 8000) {z : Str} (hz : In tg z) (hl : z.length ≤ 10000)
    (k1 : ∀ og, d = .tup (strsL og) → Tg og → Like tg og → P (.str (mapT (rh tg og) z)) C)
    (k2 : (¬ ∃ og, d = .tup (strsL og) ∧ Like tg og) → PX "NoTongue" C) : s_exchanged_word [.tup (strsL tg), d, .str z] C P PX := by
  unfold s_exchanged_word
  refine g_bodyX rfl ?_
  unfold a_exchanged_word
  walk_at "go"
  refine table_ok h hd hb (fun og es e g hL hes => ?_) (fun hno => ?_)
  · walk_at "go"
    exact text_by_ok hl (fun c hc => hes c (hz c hc)) (k1 og e g hL)
  · exact k2 hno
theorem xrule_ok {tg : List Str} (h : Tg tg) {d : D} {n : Nat} (hd : okR d n = true) (hb : blk d ≤ 8000) {ss : List Sn} (hs : Ss tg ss)
    (k1 : ∀ og, d = .tup (strsL og) → Tg og → Like tg og → P (ruD tg (ss.map (mapS (rh tg og)))) C)
    (k2 : (¬ ∃ og, d = .tup (strsL og) ∧ Like tg og) → PX "NoTongue" C) : s_exchanged_rule [ruD tg ss, d] C P PX := by
  have hfew := hs.few
  unfold ruD at *
  unfold s_exchanged_rule
  refine g_bodyX rfl ?_
  unfold a_exchanged_rule
  walk_at "go"
  refine table_ok h hd hb (fun og es e g hL hes => ?_) (fun hno => ?_)
  · walk_at "go"
    refine g_kLc (fun i acc C' => acc = (ss.take i).map (fun s => sD (mapS (rh tg og) s)) ∧ C' = C) (by rw [List.length_map]; simp only [sizeLine]; omega) ⟨rfl, rfl⟩ (fun i d acc C' hi hw => ?_) (fun acc C' hw => ?_)
    · obtain ⟨rfl, rfl⟩ := hw
      rw [List.getElem?_map] at hi
      cases q : ss[i]? with
      | none => rw [q] at hi; cases hi
      | some s =>
        rw [q] at hi
        cases hi
        have hm := List.mem_of_getElem? q
        walk_at "go"
        refine sentence_by_ok hes s 8 (hs.tx s hm) (hs.dp s hm) _ _ ⟨?_, rfl⟩
        rw [List.take_add_one, q, List.map_append]
        rfl
    · obtain ⟨rfl, rfl⟩ := hw
      rw [List.length_map, List.take_length]
      walk_at "go"
      have := k1 og e g hL
      rw [List.map_map] at this
      exact this
  · exact k2 hno
theorem rule_ok {n : Nat} {tg : List Str} (h : Tg tg) {most : Int} (hm : most = 1000000000) {p : Addr} (hp : Pen (n + 220) C p) (k : ∀ ss C', (∀ s ∈ ss, TxI tg s ∧ dp s ≤ 3) → ss.length ≤ 5 → Pen n C' p → Oth p C C' → P (ruD tg ss) C') : s_law_rule [.ce p, .tup (strsL tg), .int most] C P := by
  subst hm
  unfold ruD at k
  unfold s_law_rule a_law_rule
  walk_at "go"
  intro g hg
  have hpg : p ≠ g := by obtain ⟨_, h, _⟩ := hp; exact ne_cell h hg
  have hP := hp.other (c := .lst []) hpg
  have hO := (Oth.refl p C).put (c := .lst []) hg
  have hCg : (put C g (.lst [])) g = some (.lst (([] : List Sn).map sD)) := put_same
  generalize put C g (.lst []) = C1 at hP hO hCg
  walk_at "go"
  refine draw_ok (n := n + 219) (m := 6) hP (by omega) (by omega) fun c t hc ht => ?_
  have hP := pen_put (C := C1) (p := p) hc
  have hO := hO.pen (c := c)
  have hCg := put_other (d := c) hpg.symm hCg
  generalize put C1 p c = C2 at hP hO hCg
  walk_at "go"
  rw [show ((t : Nat) : Int).toNat = t by omega]
  refine g_kForR0 (fun i st C' => ∃ (ss : List Sn) (w : Nat) (x5 x6 : Option D), (∀ s ∈ ss, TxI tg s ∧ dp s ≤ 3) ∧ ss.length ≤ i ∧ w ≤ 1000000000 ∧ Pen (n + 219 - 40 * i) C' p ∧ Oth p C C' ∧ C' g = some (.lst (ss.map sD)) ∧ st = [some (.ce p), some (.tup (strsL tg)), some (.int 1000000000), some (.ce g), some (.int (w : Nat)), x5, x6]) ⟨[], 1, _, _, by simp, Nat.le_refl _, by omega, hP, hO, hCg, rfl⟩ (fun i st C' hi hw => ?_) (fun st C' hw => ?_)
  · obtain ⟨ss, w, x5, x6, hss, hsl, hw1, hP, hO, hCg, rfl⟩ := hw
    walk_at "go"
    refine sentence_ok h 2 8 (n + 219 - 40 * (i + 1)) _ _ (by omega) (hP.less (by show n + 219 - 40 * (i + 1) + 35 ≤ _; omega)) fun s C3 hT hS hdp hlf hP hO3 => ?_
    have hO := hO.trans hO3
    have hCg := hO3 g _ hpg.symm hCg
    have h4 : lf s ≤ 8 := Nat.le_trans hlf (by decide)
    walk_at "go"
    refine g_ifS ?_
    walk_at "go"
    have b1 := Nat.le_trans (wt_le h s hS).2 (p14 h4)
    refine weight_ok h s 8 hS (by omega) h4 _ _ ?_
    walk_at "go"
    refine g_iteD (fun hle => ?_) (fun _ => ?_)
    · have hmul : ((w : Nat) : Int) * ((wt tg s : Nat) : Int) = ((w * wt tg s : Nat) : Int) := by rw [Int.natCast_mul]
      rw [hmul] at hle
      walk_at "go"
      refine weight_ok h s 8 hS (by omega) h4 _ _ ?_
      generalize wt tg s = w1 at b1 hle hmul
      walk_at "go"
      rw [hmul]
      refine g_append hCg (by rw [List.length_map]; simp only [sizeLine]; omega) ?_
      refine ⟨ss ++ [s], w * w1, _, _, fun x hx => ?_, by rw [List.length_append, List.length_singleton]; omega, by omega, hP.other hpg, hO.put hg, by rw [put_same, List.map_append]; rfl, rfl⟩
      rcases List.mem_append.mp hx with q | q
      · exact hss x q
      · rw [List.mem_singleton.mp q]; exact ⟨hT, hdp⟩
    · walk_at "go"
      exact ⟨ss, w, _, _, hss, by omega, hw1, hP, hO, hCg, rfl⟩
  · obtain ⟨ss, w, x5, x6, hss, hsl, hw1, hP, hO, hCg, rfl⟩ := hw
    refine g_frzL rfl hCg ?_
    have hP := hP.otherD hpg
    have hO := hO.del hg
    generalize AL.del C' g = C5 at hP hO
    walk_at "go"
    exact k ss C5 hss (by omega) hP.less hO
end
end A_k39
namespace A_k39
open PySem L2 AL
theorem g_addMC {C : AH} {P : D → AH → Prop} {p : Addr} {i j : List D} (h0 : C p = some (.lst i)) (h1 : i.length + j.length ≤ sizeLine) (h : ∀ q, C q = none → P (.ce q) (put C q (.lst (i ++ j)))) : aAddM (.ce p) (.lst j) C P := ⟨i, j, by simp [asL, h0], rfl, h1, h⟩
theorem mark_NoTongue {C : AH} {P : D → AH → Prop} {a : Addr} (h : C a = some (.exc "NoTongue")) (k : ∀ C', AL.Keep C C' → P (.int 0) C') : s_law_mark [.ce a] C P := by
  unfold s_law_mark a_law_mark
  walk_at "go"
  refine g_kIsX (b := true) h (by decide +kernel) ?_
  walk_at "go"
  refine g_kIsX (b := false) h (by decide +kernel) ?_
  walk_at "go"
  refine g_kIsX (b := false) h (by decide +kernel) ?_
  walk_at "go"
  refine g_kIsX (b := false) h (by decide +kernel) ?_
  walk_at "go"
  intro q hq
  have hC := (show ∀ r c, C r = some c → put C q (.lst [.bl true, .bl false, .bl false, .bl false]) r = some c from fun r c e => put_other (ne_cell e hq) e) a _ h
  have hK := (AL.Keep.refl C).put (c := .lst [.bl true, .bl false, .bl false, .bl false]) hq
  have hq2 : put C q (.lst [.bl true, .bl false, .bl false, .bl false]) q = some (.lst [.bl true, .bl false, .bl false, .bl false]) := put_same
  generalize put C q (.lst [.bl true, .bl false, .bl false, .bl false]) = C1 at hC hK hq2 ⊢
  walk_at "go"
  refine g_kIsX (b := false) hC (by decide +kernel) ?_
  walk_at "go"
  refine g_kIsX (b := false) hC (by decide +kernel) ?_
  walk_at "go"
  refine g_kIsX (b := false) hC (by decide +kernel) ?_
  walk_at "go"
  refine g_kIsX (b := false) hC (by decide +kernel) ?_
  walk_at "go"
  refine g_addMC hq2 (by decide) fun r hr => ?_
  rw [show [D.bl true, .bl false, .bl false, .bl false] ++ [D.bl false, .bl false, .bl false, .bl false] = [true, false, false, false, false, false, false, false].map D.bl from rfl]
  have hr0 := hK.none hr
  have hra : a ≠ r := ne_cell hC hr
  have hC := put_other (d := .lst ([true, false, false, false, false, false, false, false].map D.bl)) (ne_cell hC hr) hC
  have hK := hK.put (c := .lst ([true, false, false, false, false, false, false, false].map D.bl)) hr0
  have hr2 : put C1 r (.lst ([true, false, false, false, false, false, false, false].map D.bl)) r = some (.lst ([true, false, false, false, false, false, false, false].map D.bl)) := put_same
  generalize put C1 r (.lst ([true, false, false, false, false, false, false, false].map D.bl)) = C2 at hC hK hr2 ⊢
  walk_at "go"
  refine g_kIsX (b := false) hC (by decide +kernel) ?_
  walk_at "go"
  refine g_kIsX (b := false) hC (by decide +kernel) ?_
  walk_at "go"
  refine g_kIsX (b := false) hC (by decide +kernel) ?_
  walk_at "go"
  refine g_kIsX (b := false) hC (by decide +kernel) ?_
  walk_at "go"
  refine g_addMC hr2 (by decide) fun v hv => ?_
  rw [show [true, false, false, false, false, false, false, false].map D.bl ++ [D.bl false, .bl false, .bl false, .bl false] = [true, false, false, false, false, false, false, false, false, false, false, false].map D.bl from rfl]
  have hv0 := hK.none hv
  have hva : a ≠ v := ne_cell hC hv
  have hC := put_other (d := .lst ([true, false, false, false, false, false, false, false, false, false, false, false].map D.bl)) (ne_cell hC hv) hC
  have hK := hK.put (c := .lst ([true, false, false, false, false, false, false, false, false, false, false, false].map D.bl)) hv0
  have hv2 : put C2 v (.lst ([true, false, false, false, false, false, false, false, false, false, false, false].map D.bl)) v = some (.lst ([true, false, false, false, false, false, false, false, false, false, false, false].map D.bl)) := put_same
  generalize put C2 v (.lst ([true, false, false, false, false, false, false, false, false, false, false, false].map D.bl)) = C3 at hC hK hv2 ⊢
  walk_at "go"
  refine g_kIsX (b := false) hC (by decide +kernel) ?_
  walk_at "go"
  refine g_append hv2 (by decide) ?_
  rw [show [true, false, false, false, false, false, false, false, false, false, false, false].map D.bl ++ [D.bl false] = [true, false, false, false, false, false, false, false, false, false, false, false, false].map D.bl from rfl]
  have hC := put_other (d := .lst ([true, false, false, false, false, false, false, false, false, false, false, false, false].map D.bl)) hva hC
  have hK := hK.put (c := .lst ([true, false, false, false, false, false, false, false, false, false, false, false, false].map D.bl)) hv0
  have hv2 : put C3 v (.lst ([true, false, false, false, false, false, false, false, false, false, false, false, false].map D.bl)) v = some (.lst ([true, false, false, false, false, false, false, false, false, false, false, false, false].map D.bl)) := put_same
  generalize put C3 v (.lst ([true, false, false, false, false, false, false, false, false, false, false, false, false].map D.bl)) = C4 at hC hK hv2 ⊢
  walk_at "go"
  have hC := del_other hva hC
  have hK := hK.del hv0
  generalize del C4 v = C5 at hC hK
  walk_at "go"
  refine g_ifF (fun K hKK => ?_) ?_
  · walk_at "go"
    refine g_countB ?_
    rw [show ([true, false, false, false, false, false, false, false, false, false, false, false, false].count true : Nat) = 1 by decide]
    walk_at "go"
    rw [show decide (((1 : Nat) : Int) = 1) = true from rfl]
    walk_at "go"
    refine g_kIsX (b := true) hC (by decide +kernel) ?_
    walk_at "go"
    exact hKK
  walk_at "go"
  refine g_indexB (by decide) ?_
  rw [show ([true, false, false, false, false, false, false, false, false, false, false, false, false].idxOf true : Nat) = 0 by decide]
  exact k _ hK
end A_k39
namespace A_k39
open PySem L2 AL
def Bk (n m : Nat) (d : D) : Prop := okR d n = true ∧ blk d ≤ m
theorem Bk.mono {n m n2 m2 : Nat} {d : D} (h : Bk n m d) (hn : n ≤ n2 := by omega) (hm : m ≤ m2 := by omega) : Bk n2 m2 d := ⟨okR_mono h.1 hn, Nat.le_trans h.2 hm⟩
theorem blks_le {m : Nat} : ∀ {ds : List D}, (∀ d ∈ ds, blk d ≤ m) → blks ds ≤ ds.length * (m + 1)
  | [], _ => Nat.zero_le _
  | d :: ds, h => by
    have h1 := h d List.mem_cons_self
    have h2 := blks_le fun e he => h e (List.mem_cons_of_mem _ he)
    simp only [blks, List.length_cons, Nat.add_mul, Nat.one_mul] at *
    omega
theorem Bk.lst {n m l : Nat} {ds : List D} (h : ∀ d ∈ ds, Bk n m d) (hl : ds.length ≤ l) : Bk (n + 1) (l * (m + 1)) (.lst ds) :=
  ⟨by simp only [okR]; exact okRs_all.mpr fun d hd => (h d hd).1, Nat.le_trans (blks_le fun d hd => (h d hd).2) (Nat.mul_le_mul_right _ hl)⟩
theorem Bk.tup {n m l : Nat} {ds : List D} (h : ∀ d ∈ ds, Bk n m d) (hl : ds.length ≤ l) : Bk (n + 1) (l * (m + 1)) (.tup ds) :=
  ⟨by simp only [okR]; exact okRs_all.mpr fun d hd => (h d hd).1, Nat.le_trans (blks_le fun d hd => (h d hd).2) (Nat.mul_le_mul_right _ hl)⟩
/-- a short text of small signs -/
def Tx (x : Str) : Prop := (∀ c ∈ x.cps.toList, c < 128) ∧ x.length ≤ 30
theorem Tx.bk {x : Str} (h : Tx x) : Bk 0 30 (.str x) := by
  refine ⟨?_, h.2⟩
  simp only [okR]
  rw [Array.all_eq_true]
  intro j hj
  exact decide_eq_true (Nat.lt_trans (h.1 _ (by rw [Array.mem_toList_iff]; exact Array.getElem_mem hj)) (by decide))
theorem Tx.bk1 {x : Str} (h : Tx x) : Bk 1 60 (.str x) := h.bk.mono
theorem tup_bk {ds : List D} (h : ∀ d ∈ ds, Bk 1 60 d) (hl : ds.length ≤ 6) : Bk 2 400 (.tup ds) := (Bk.tup h hl).mono
structure Nt (tg : List Str) (d : D) : Prop where
  bk : Bk 2 400 d
  no : ¬ ∃ og, d = .tup (strsL og) ∧ Like tg og
theorem strs_inj {a b : List Str} (h : strsL a = strsL b) : a = b := by
  unfold strsL at h
  exact (List.map_inj_right fun a b hab => D.str.inj hab).mp h
theorem Nt.strs {tg x : List Str} (hb : Bk 2 400 (.tup (strsL x))) (h : ¬ Like tg x) : Nt tg (.tup (strsL x)) := ⟨hb, fun ⟨og, e, hL⟩ => h (by rw [strs_inj (D.tup.inj e)]; exact hL)⟩
section
variable {C : AH} {P : D → AH → Prop}
theorem sub_len : ∀ {l m : List Nat}, l.Nodup → (∀ x ∈ l, x ∈ m) → l.length ≤ m.length
  | [], _, _, _ => Nat.zero_le _
  | a :: l, m, hn, hs => by
    obtain ⟨h1, h2⟩ := List.nodup_cons.mp hn
    have ha := hs a (by simp)
    have := sub_len (l := l) (m := m.erase a) h2 fun x hx => by
      have hne : x ≠ a := fun e => h1 (e ▸ hx)
      exact (List.mem_erase_of_ne hne).mpr (hs x (List.mem_cons_of_mem _ hx))
    have hp := List.length_pos_of_mem ha
    rw [List.length_erase_of_mem ha] at this
    rw [List.length_cons]
    omega
def few : Str := "azb0c1d2e3f4!"
theorem few_eq : ("azb0c1d2e3f4!" : Str) = few := rfl
theorem few_ok : few.cps.toList.length = 13 ∧ few.cps.toList.Nodup ∧ ∀ c ∈ few.cps.toList, c < 128 := by decide +kernel
theorem no_tongues_ok {tg og : List Str} (h : Tg tg) (g : Tg og) (hL : Like tg og) (k : ∀ ds, (∀ d ∈ ds, Nt tg d) → 1 ≤ ds.length → ds.length ≤ 100 → P (.lst ds) C) : s_law_no_tongues [.tup (strsL tg), .tup (strsL og)] C P := by
  have hi := h.inv
  have gi := g.inv
  have h12 := hi.size
  obtain ⟨y, ys, rfl⟩ : ∃ y ys, tg = y :: ys := by
    cases tg with
    | nil => exact absurd hi.one (by simp)
    | cons a b => exact ⟨a, b, rfl⟩
  obtain ⟨f, r, rfl⟩ : ∃ f r, og = f :: r := by
    cases og with
    | nil => exact hL.elim
    | cons a b => exact ⟨a, b, rfl⟩
  have hlen := hL.len
  have hp1 : (cs y).Perm (cs f) := hL.1
  have hLr : Like ys r := hL.2
  have hlr := hLr.len
  have hfl := gi.len f (by simp)
  have hcf : (cs f).length = f.length := AL.len_toList f
  have hg4 := gi.four
  rw [List.length_cons] at hg4
  have gd : ∀ c ∈ zs (f :: r), c < 128 := fun c hc => by
    have := gi.good c hc
    simp only [A_k39.T.goodB, Bool.and_eq_true, decide_eq_true_eq] at this
    omega
  have txs : ∀ x ∈ f :: r, Tx x := fun x hx => ⟨fun c hc => gd c (in_zs hx hc), by have := (gi.len x hx).2; omega⟩
  have hr : ∀ x ∈ r, Tx x := fun x hx => txs x (List.mem_cons_of_mem _ hx)
  have bkS : ∀ {xs : List Str}, (∀ x ∈ xs, Tx x) → xs.length ≤ 6 → Bk 2 400 (.tup (strsL xs)) := fun {xs} hx hl => tup_bk (fun d hd => by
    obtain ⟨x, hx', rfl⟩ := List.mem_map.mp hd
    exact (hx x hx').bk1) (by simp only [strsL, List.length_map]; exact hl)
  unfold s_law_no_tongues a_law_no_tongues
  rw [few_eq]
  obtain ⟨hf1, hf2, hf3⟩ := few_ok
  obtain ⟨few0, hf0⟩ : ∃ l, l = few := ⟨_, rfl⟩
  rw [← hf0] at hf1 hf2 hf3 ⊢
  clear hf0
  walk_at "go"
  refine g_kLc (fun i acc C' => acc = ((few0.cps.toList.take i).filter fun c => !decide (c ∈ zs (y :: ys))).map (fun c => D.str (oneS c)) ∧ C' = C) (by unfold signs; rw [List.length_map, hf1]; simp only [sizeLine]; omega) ⟨rfl, rfl⟩ (fun i d acc C' hi2 hw => ?_) (fun acc C' hw => ?_)
  · obtain ⟨rfl, rfl⟩ := hw
    unfold signs at hi2
    rw [List.getElem?_map] at hi2
    cases e : few0.cps.toList[i]? with
    | none => rw [e] at hi2; cases hi2
    | some c =>
    rw [e] at hi2
    cases hi2
    walk_at "go"
    refine g_joinT h.sz ?_
    walk_at "go"
    refine g_ninS ?_
    rw [A_k39.T.in_one]
    show kB _ (.bl (!decide (c ∈ zs (y :: ys)))) C'
    walk_at "go"
    rw [List.take_add_one, e, List.filter_append, List.map_append]
    by_cases hc : c ∈ zs (y :: ys)
    · rw [decide_eq_true hc]
      walk_at "go"
      exact ⟨by simp [hc], rfl⟩
    · rw [decide_eq_false hc]
      walk_at "go"
      exact ⟨by simp [hc]; rfl, rfl⟩
  obtain ⟨rfl, rfl⟩ := hw
  rw [show (signs few0).length = few0.cps.toList.length by unfold signs; rw [List.length_map], List.take_length]
  obtain ⟨u, us, hu⟩ : ∃ u us, (few0.cps.toList.filter fun c => !decide (c ∈ zs (y :: ys))) = u :: us := by
    cases e : few0.cps.toList.filter fun c => !decide (c ∈ zs (y :: ys)) with
    | cons a b => exact ⟨a, b, rfl⟩
    | nil =>
      have := sub_len hf2 (m := zs (y :: ys)) fun x hx => by
        have h0 := List.filter_eq_nil_iff.mp e x hx
        simpa using h0
      omega
  have hum : u ∈ few0.cps.toList.filter fun c => !decide (c ∈ zs (y :: ys)) := by rw [hu]; simp
  have hu1 := (List.mem_filter.mp hum).1
  have hu2 : u ∉ zs (y :: ys) := by have := (List.mem_filter.mp hum).2; simpa using this
  have hu128 := hf3 u hu1
  rw [hu, List.map_cons]
  walk_at "go"
  obtain ⟨a, f', hf⟩ : ∃ a f', cs f = a :: f' := by
    cases e : cs f with
    | nil => rw [e] at hcf; simp at hcf; omega
    | cons a b => exact ⟨a, b, rfl⟩
  have haf : a ∈ zs (f :: r) := in_zs (y := f) (by simp) (by rw [hf]; simp)
  have ha128 := gd a haf
  have hix0 : ∀ (P : D → AH → Prop) (C : AH), P (.str (oneS a)) C → aIx (.str f) (.int 0) C P := fun P C k => g_ixO2 (i := 0) (by omega) (by omega) fun c _ hc => by
    have : (cs f)[0]? = some c := hc
    rw [hf] at this
    cases this
    exact k
  have hf1 : cs (cutS f (some 1) none) = f' := by
    have := cutS_drop f 1
    show (cutS f (some ((1 : Nat) : Int)) none).cps.toList = f'
    rw [this]
    show (cs f).drop 1 = f'
    rw [hf]; rfl
  have hfl' : f'.length + 1 = f.length := by rw [← hcf, hf]; rfl
  have hcut : ∀ (P : D → AH → Prop) (C : AH), P (.str (cutS f (some 1) none)) C → aCut (.str f) (some 1) none C P := fun P C k => g_cutSt (by omega) k
  have hl1 : (cutS f (some 1) none).length = f'.length := by rw [← hf1]; exact (AL.len_toList _).symm
  generalize cutS f (some 1) none = f1 at hf1 hcut hl1
  have hcutT : ∀ (P : D → AH → Prop) (C : AH), P (.tup (r.map D.str)) C → aCut (.tup (D.str f :: r.map D.str)) (some 1) none C P := fun P C k => by
    refine g_cutT ?_
    rw [cut1]
    exact k
  have o1 : (oneS u).length = 1 := rfl
  have o1a : (oneS a).length = 1 := rfl
  have sT : ∀ {A B : List D}, A.length + B.length ≤ 20 → A.length + B.length ≤ sizeLine := fun h => by simp only [sizeLine]; omega
  have hrl : (r.map D.str).length = r.length := List.length_map _
  have hrl2 : (D.str f :: r.map D.str).length = r.length + 1 := by simp
  refine hcutT _ _ ?_
  walk_at "go"
  refine g_addT (sT (by rw [hrl2]; simp only [List.length_cons, List.length_nil]; omega)) ?_
  walk_at "go"
  refine hcut _ _ ?_
  refine g_addS (by rw [o1, hl1]; simp only [sizeLine]; omega) ?_
  walk_at "go"
  refine hcutT _ _ ?_
  refine g_addT (sT (by rw [hrl]; simp only [List.length_cons, List.length_nil]; omega)) ?_
  walk_at "go"
  refine hcut _ _ ?_
  walk_at "go"
  refine hcutT _ _ ?_
  refine g_addT (sT (by rw [hrl]; simp only [List.length_cons, List.length_nil]; omega)) ?_
  walk_at "go"
  refine g_joinT (ys := f :: r) g.sz ?_
  walk_at "go"
  unfold aDict0F
  walk_at "go"
  refine hix0 _ _ ?_
  refine g_addS (by rw [o1a]; simp only [sizeLine]; omega) ?_
  walk_at "go"
  refine hcutT _ _ ?_
  refine g_addT (sT (by rw [hrl]; simp only [List.length_cons, List.length_nil]; omega)) ?_
  walk_at "go"
  refine hix0 _ _ ?_
  walk_at "go"
  refine g_addT (sT (by rw [hrl2]; simp only [List.length_cons, List.length_nil]; omega)) ?_
  walk_at "go"
  refine g_addL (sT (by simp only [List.length_cons, List.length_nil]; omega)) ?_
  walk_at "go"
  refine g_addS (by rw [o1]; simp only [sizeLine]; omega) ?_
  walk_at "go"
  refine hcutT _ _ ?_
  refine g_addT (sT (by rw [hrl]; simp only [List.length_cons, List.length_nil]; omega)) ?_
  walk_at "go"
  refine hcutT _ _ ?_
  refine g_addT (sT (by rw [hrl]; simp only [List.length_cons, List.length_nil]; omega)) ?_
  walk_at "go"
  refine g_listS (by show f.length ≤ sizeLine; simp only [sizeLine]; omega) ?_
  walk_at "go"
  refine hcutT _ _ ?_
  refine g_addT (sT (by rw [hrl]; simp only [List.length_cons, List.length_nil]; omega)) ?_
  walk_at "go"
  refine g_addL (by simp only [List.length_append, List.length_cons, List.length_nil, sizeLine]; omega) ?_
  walk_at "go"
  have tu : Tx (oneS u) := ⟨fun c hc => by rw [show c = u by simpa [oneS] using hc]; exact hu128, by rw [o1]; omega⟩
  have ta : Tx (oneS a) := ⟨fun c hc => by rw [show c = a by simpa [oneS] using hc]; exact ha128, by rw [o1a]; omega⟩
  have tf := txs f (by simp)
  have tf1 : Tx f1 := ⟨fun c hc => gd c (in_zs (y := f) (by simp) (by rw [hf]; exact List.mem_cons_of_mem _ (by rw [← hf1]; exact hc))), by rw [hl1]; omega⟩
  have tap : ∀ {x z : Str}, Tx x → Tx z → x.length + z.length ≤ 30 → Tx (x ++ z) := fun h1 h2 h3 => ⟨fun c hc => by
    rw [app_toList] at hc
    rcases List.mem_append.mp hc with q | q
    · exact h1.1 c q
    · exact h2.1 c q, by rw [app_len]; exact h3⟩
  have cons : ∀ {x : Str} {l : List Str}, Tx x → (∀ z ∈ l, Tx z) → ∀ z ∈ x :: l, Tx z := fun h1 h2 z hz => by
    rcases List.mem_cons.mp hz with q | q
    · rw [q]; exact h1
    · exact h2 z q
  have lenL : ∀ {x : List Str}, Like (y :: ys) x → x.length = r.length + 1 := fun hx => by rw [← hx.len, List.length_cons, hlr]
  have headL : ∀ {z : Str} {l : List Str}, Like (y :: ys) (z :: l) → (cs f).Perm (cs z) := fun hx => hp1.symm.trans hx.1
  have hcl : ∀ {x z : Str}, (cs x).Perm (cs z) → x.length = z.length := fun hp => by
    have := hp.length_eq
    rwa [show (cs _).length = _ from AL.len_toList _, show (cs _).length = _ from AL.len_toList _] at this
  have huf : u ∉ cs f := fun hc => hu2 (in_zs (y := y) (by simp) (hp1.mem_iff.mpr hc))
  have ndT : ∀ {d : D}, Bk 2 400 d → (∀ us, d ≠ .tup us) → Nt (y :: ys) d := fun hb hd => ⟨hb, fun ⟨og, e, _⟩ => hd _ e⟩
  have one : ∀ (d : D), Nt (y :: ys) d → ∀ x ∈ [d], Nt (y :: ys) x := fun d hd x hx => by rw [List.mem_singleton.mp hx]; exact hd
  have hA : ∀ d ∈ [D.tup (List.map D.str r), D.tup (D.str f :: List.map D.str r ++ [D.str (oneS u)]), D.tup ([D.str (oneS u ++ f1)] ++ List.map D.str r), D.tup ([D.str f1] ++ List.map D.str r), D.lst (D.str f :: List.map D.str r)] ++
              [D.str (Txt.join (Str.ofString "") (f :: r)), D.non, D.int 0, D.bl true, D.tup [], D.dk [], D.tup ([D.str (f ++ oneS a)] ++ List.map D.str r), D.tup (D.str f :: List.map D.str r ++ [D.str (oneS a)]), D.tup [D.str (Str.ofString "")]] ++
            [D.tup ([D.str (f ++ oneS u)] ++ List.map D.str r), D.tup ([D.non] ++ List.map D.str r), D.tup ([D.lst (signs f)] ++ List.map D.str r)], Nt (y :: ys) d := by
    intro d hd
    simp only [List.append_assoc, List.cons_append, List.nil_append, List.mem_cons, List.not_mem_nil, or_false] at hd
    have snocE : ∀ x : Str, D.tup (D.str f :: (List.map D.str r ++ [D.str x])) = .tup (strsL (f :: r ++ [x])) := fun x => by simp [strsL]
    have consE : ∀ x : Str, D.tup (D.str x :: List.map D.str r) = .tup (strsL (x :: r)) := fun x => rfl
    have snT : ∀ {x : Str}, Tx x → ∀ z ∈ f :: r ++ [x], Tx z := fun hx z hz => by
      rcases List.mem_append.mp hz with q | q
      · exact txs z q
      · rw [List.mem_singleton.mp q]; exact hx
    rcases hd with rfl | rfl | rfl | rfl | rfl | rfl | rfl | rfl | rfl | rfl | rfl | rfl | rfl | rfl | rfl | rfl | rfl
    · exact Nt.strs (bkS hr (by omega)) fun hx => by have := lenL hx; omega
    · rw [snocE]
      refine Nt.strs (bkS (snT tu) (by simp; omega)) fun hx => ?_
      have := lenL hx
      simp at this
    · rw [consE]
      refine Nt.strs (bkS (cons (tap tu tf1 (by rw [o1, hl1]; omega)) hr) (by simp; omega)) fun hx => huf ?_
      refine (headL hx).mem_iff.mpr ?_
      rw [cs_app]
      exact List.mem_append_left _ (by simp [cs, oneS])
    · rw [consE]
      refine Nt.strs (bkS (cons tf1 hr) (by simp; omega)) fun hx => ?_
      have := hcl (headL hx)
      omega
    · refine ndT ?_ (fun us e => nomatch e)
      exact (Bk.lst (l := 6) (m := 60) (n := 1) (fun d hd => by
        obtain ⟨x, hx, rfl⟩ := List.mem_map.mp (show d ∈ (f :: r).map D.str from hd)
        exact (txs x hx).bk1) (by simp; omega)).mono
    · refine ndT (Tx.bk (x := Txt.join "" (f :: r)) ⟨fun c hc => gd c hc, ?_⟩).mono (fun us e => nomatch e)
      have h1 : (Txt.join "" (f :: r)).length = (zs (f :: r)).length := (AL.len_toList _).symm
      have := gi.size
      omega
    · exact ndT ⟨rfl, by decide⟩ (fun us e => nomatch e)
    · exact ndT ⟨by decide +kernel, by decide⟩ (fun us e => nomatch e)
    · exact ndT ⟨rfl, by decide⟩ (fun us e => nomatch e)
    · exact Nt.strs (x := []) ⟨by decide +kernel, by decide +kernel⟩ fun hx => hx.elim
    · exact ndT ⟨by decide +kernel, by decide +kernel⟩ (fun us e => nomatch e)
    · rw [consE]
      refine Nt.strs (bkS (cons (tap tf ta (by rw [o1a]; omega)) hr) (by simp; omega)) fun hx => ?_
      have := hcl (headL hx)
      rw [app_len, o1a] at this
      omega
    · rw [snocE]
      refine Nt.strs (bkS (snT ta) (by simp; omega)) fun hx => ?_
      have := lenL hx
      simp at this
    · refine Nt.strs (x := [""]) ⟨by decide +kernel, by decide +kernel⟩ fun hx => ?_
      have := hcl (headL hx)
      rw [show ("" : Str).length = 0 from rfl] at this
      omega
    · rw [consE]
      refine Nt.strs (bkS (cons (tap tf tu (by rw [o1]; omega)) hr) (by simp; omega)) fun hx => ?_
      have := hcl (headL hx)
      rw [app_len, o1] at this
      omega
    · refine ⟨tup_bk (fun d hd => ?_) (by simp; omega), ?_⟩
      · rcases List.mem_cons.mp hd with q | q
        · rw [q]; exact ⟨rfl, by decide⟩
        · obtain ⟨x, hx, rfl⟩ := List.mem_map.mp q
          exact (hr x hx).bk1
      · rintro ⟨og, e, hx⟩
        cases og with
        | nil => cases e
        | cons b c => cases e
    · refine ⟨tup_bk (fun d hd => ?_) (by simp; omega), ?_⟩
      · rcases List.mem_cons.mp hd with q | q
        · rw [q]
          refine (Bk.lst (n := 0) (m := 1) (l := 6) (fun d hd => ?_) ?_).mono
          · unfold signs at hd
            obtain ⟨c, hc, rfl⟩ := List.mem_map.mp hd
            have h128 := tf.1 c hc
            refine ⟨?_, Nat.le_refl _⟩
            show (oneS c).cps.all (· < 0x110000) = true
            simp [oneS]
            omega
          · unfold signs
            rw [List.length_map, AL.len_toList]
            omega
        · obtain ⟨x, hx, rfl⟩ := List.mem_map.mp q
          exact (hr x hx).bk1
      · rintro ⟨og, e, hx⟩
        cases og with
        | nil => cases e
        | cons b c => cases e
  generalize hAl : [D.tup (List.map D.str r), D.tup (D.str f :: List.map D.str r ++ [D.str (oneS u)]), D.tup ([D.str (oneS u ++ f1)] ++ List.map D.str r), D.tup ([D.str f1] ++ List.map D.str r), D.lst (D.str f :: List.map D.str r)] ++
              [D.str (Txt.join (Str.ofString "") (f :: r)), D.non, D.int 0, D.bl true, D.tup [], D.dk [], D.tup ([D.str (f ++ oneS a)] ++ List.map D.str r), D.tup (D.str f :: List.map D.str r ++ [D.str (oneS a)]), D.tup [D.str (Str.ofString "")]] ++
            [D.tup ([D.str (f ++ oneS u)] ++ List.map D.str r), D.tup ([D.non] ++ List.map D.str r), D.tup ([D.lst (signs f)] ++ List.map D.str r)] = A at hA
  have hAn : A.length = 17 := by rw [← hAl]; rfl
  clear hAl
  refine g_ifS ?_
  walk_at "go"
  rw [hrl2]
  refine g_iteD (fun h2 => ?_) (fun _ => ?_)
  · obtain ⟨e, r2, rfl⟩ : ∃ e r2, r = e :: r2 := by
      cases r with
      | nil => simp at h2
      | cons a b => exact ⟨a, b, rfl⟩
    have hel := gi.len e (by simp)
    have hce : (cs e).length = e.length := AL.len_toList e
    obtain ⟨b, e', he⟩ : ∃ b e', cs e = b :: e' := by
      cases q : cs e with
      | nil => rw [q] at hce; simp at hce; omega
      | cons a b => exact ⟨a, b, rfl⟩
    have te := txs e (by simp)
    have hdis : ∀ x, x ∈ e :: r2 → ∀ c ∈ cs f, c ∉ cs x := fun x hx c hc hcx => by
      have hn := gi.nd
      rw [zs_eq, List.map_cons, List.flatten_cons] at hn
      exact (List.nodup_append.mp hn).2.2 c hc c (List.mem_flatten.mpr ⟨_, List.mem_map.mpr ⟨x, hx, rfl⟩, hcx⟩) rfl
    have hb128 := te.1 b (show b ∈ cs e by rw [he]; simp)
    have tb : Tx (oneS b) := ⟨fun c hc => by rw [show c = b by simpa [oneS] using hc]; exact hb128, by show 1 ≤ 30; omega⟩
    have hix1 : ∀ (P : D → AH → Prop) (C : AH), P (.str (oneS b)) C → aIx (.str e) (.int 0) C P := fun P C k => g_ixO2 (i := 0) (by omega) (by omega) fun c _ hc => by
      have : (cs e)[0]? = some c := hc
      rw [he] at this
      cases this
      exact k
    have he1 : cs (cutS e (some 1) none) = e' := by
      have := cutS_drop e 1
      show (cutS e (some ((1 : Nat) : Int)) none).cps.toList = e'
      rw [this]
      show (cs e).drop 1 = e'
      rw [he]; rfl
    have hle : e'.length + 1 = e.length := by rw [← hce, he]; rfl
    have hcut2 : ∀ (P : D → AH → Prop) (C : AH), P (.str (cutS e (some 1) none)) C → aCut (.str e) (some 1) none C P := fun P C k => g_cutSt (by omega) k
    have hl2' : (cutS e (some 1) none).length = e'.length := by rw [← he1]; exact (AL.len_toList _).symm
    generalize cutS e (some 1) none = e1 at he1 hcut2 hl2'
    have te1 : Tx e1 := ⟨fun c hc => te.1 c (show c ∈ cs e by rw [he]; exact List.mem_cons_of_mem _ (by rw [← he1]; exact hc)), by rw [hl2']; omega⟩
    have hcutT2 : ∀ (P : D → AH → Prop) (C : AH), P (.tup (r2.map D.str)) C → aCut (.tup (D.str f :: D.str e :: r2.map D.str)) (some 2) none C P := fun P C k => by
      refine g_cutT ?_
      rw [show cutD (D.str f :: D.str e :: r2.map D.str) (some 2) none = r2.map D.str from cutD_drop _ 2]
      exact k
    rw [List.length_cons] at hg4
    walk_at "go"
    refine g_revT ?_
    walk_at "go"
    refine g_ixT (d := .str e) (atI_nat' (i := 1) rfl) ?_
    walk_at "go"
    refine hix1 _ _ ?_
    walk_at "go"
    refine hcut _ _ ?_
    refine g_addS (by rw [show (oneS b).length = 1 from rfl, hl1]; simp only [sizeLine]; omega) ?_
    walk_at "go"
    refine hix0 _ _ ?_
    walk_at "go"
    refine g_ixT (d := .str e) (atI_nat' (i := 1) rfl) ?_
    walk_at "go"
    refine hcut2 _ _ ?_
    refine g_addS (by rw [o1a, hl2']; simp only [sizeLine]; omega) ?_
    walk_at "go"
    refine hcutT2 _ _ ?_
    refine g_addT (sT (by rw [List.length_map]; simp only [List.length_cons, List.length_nil]; omega)) ?_
    walk_at "go"
    refine g_addL (by rw [hAn]; simp only [List.length_cons, List.length_nil, sizeLine]; omega) ?_
    walk_at "go"
    refine k _ (fun d hd => ?_) (by rw [List.length_append]; omega) (by rw [List.length_append, hAn]; simp only [List.length_cons, List.length_nil]; omega)
    rcases List.mem_append.mp hd with q | q
    · exact hA d q
    simp only [List.mem_cons, List.not_mem_nil, or_false] at q
    rcases q with rfl | rfl
    · have eR : D.tup (D.str f :: List.map D.str (e :: r2)).reverse = .tup (strsL (f :: e :: r2).reverse) := by
        show D.tup ((f :: e :: r2).map D.str).reverse = _
        rw [← List.map_reverse]
        try rfl
      first | rw [eR] | skip
      refine Nt.strs (bkS (fun z hz => txs z (List.mem_reverse.mp hz)) (by rw [List.length_reverse]; simp only [List.length_cons]; omega)) fun hx => ?_
      obtain ⟨x, l, hl⟩ : ∃ x l, (f :: e :: r2).reverse = x :: l := by
        cases q : (f :: e :: r2).reverse with
        | nil => simp at q
        | cons a b => exact ⟨a, b, rfl⟩
      have hxm : x ∈ e :: r2 := by
        have : x ∈ (e :: r2).reverse := by
          rw [List.reverse_cons] at hl
          cases q : (e :: r2).reverse with
          | nil => simp at q
          | cons a b =>
            rw [q] at hl
            have : a = x := by simpa using congrArg List.head? hl
            rw [← this]; simp
        exact List.mem_reverse.mp this
      rw [hl] at hx
      exact hdis x hxm a (by rw [hf]; simp) ((headL hx).mem_iff.mp (by rw [hf]; simp))
    · refine Nt.strs (x := (oneS b ++ f1) :: (oneS a ++ e1) :: r2) (bkS (cons (tap tb tf1 (by rw [show (oneS b).length = 1 from rfl, hl1]; omega)) (cons (tap ta te1 (by rw [o1a, hl2']; omega)) fun z hz => hr z (List.mem_cons_of_mem _ hz))) (by simp only [List.length_cons]; omega)) fun hx => ?_
      have hbm : b ∈ cs f := (headL hx).mem_iff.mpr (by rw [cs_app]; exact List.mem_append_left _ (by simp [cs, oneS]))
      exact hdis e (by simp) b hbm (by rw [he]; simp)
  · walk_at "go"
    exact k A hA (by omega) (by omega)
end
end A_k39
namespace A_k39
open PySem L2 AL
theorem okD_tx {tg : List Str} (h : Tg tg) {z : Str} (hz : In tg z) (n : Nat) : okD (.str z) n = true := by
  show z.cps.all (· < 0x110000) = true
  rw [Array.all_eq_true]
  intro j hj
  have := h.inv.good _ (hz _ (by rw [Array.mem_toList_iff]; exact Array.getElem_mem hj))
  simp only [A_k39.T.goodB, Bool.and_eq_true, decide_eq_true_eq] at this
  exact decide_eq_true (by omega)
theorem okD_nm {w : Str} (h : w.cps.all (· < 0x110000) = true) (n : Nat) : okD (.str w) n = true := h
theorem okD3 {n : Nat} {ds : List D} (h : ∀ d ∈ ds, okD d n = true) : okD (.tup ds) (n + 1) = true := okD_tup h
theorem okD_sD {tg : List Str} (h : Tg tg) : ∀ (s : Sn) (n : Nat), TxI tg s → dp s ≤ n → okD (sD s) n = true := by
  intro s
  induction s with
  | long l o =>
    intro n hT hd
    obtain ⟨n, rfl⟩ : ∃ m, n = m + 1 := ⟨n - 1, by simp only [dp] at hd; omega⟩
    refine okD3 fun d hd => ?_
    simp only [List.mem_cons, List.not_mem_nil, or_false] at hd
    rcases hd with rfl | rfl | rfl
    · exact okD_nm (by decide +kernel) _
    · rfl
    · cases o <;> rfl
  | least a m =>
    intro n hT hd
    obtain ⟨n, rfl⟩ : ∃ m, n = m + 1 := ⟨n - 1, by simp only [dp] at hd; omega⟩
    refine okD3 fun d hd => ?_
    simp only [List.mem_cons, List.not_mem_nil, or_false] at hd
    rcases hd with rfl | rfl | rfl
    · exact okD_nm (by decide +kernel) _
    · rfl
    · rfl
  | often z m =>
    intro n hT hd
    obtain ⟨n, rfl⟩ : ∃ m, n = m + 1 := ⟨n - 1, by simp only [dp] at hd; omega⟩
    refine okD3 fun d hd => ?_
    simp only [List.mem_cons, List.not_mem_nil, or_false] at hd
    rcases hd with rfl | rfl | rfl
    · exact okD_nm (by decide +kernel) _
    · exact okD_tx h hT.1 _
    · rfl
  | apart =>
    intro n hT hd
    obtain ⟨n, rfl⟩ : ∃ m, n = m + 1 := ⟨n - 1, by simp only [dp] at hd; omega⟩
    refine okD3 fun d hd => ?_
    rw [List.mem_singleton.mp hd]
    exact okD_nm (by decide +kernel) _
  | wi z =>
    intro n hT hd
    obtain ⟨n, rfl⟩ : ∃ m, n = m + 1 := ⟨n - 1, by simp only [dp] at hd; omega⟩
    refine okD3 fun d hd => ?_
    simp only [List.mem_cons, List.not_mem_nil, or_false] at hd
    rcases hd with rfl | rfl
    · exact okD_nm (by decide +kernel) _
    · exact okD_tx h hT.1 _
  | be z =>
    intro n hT hd
    obtain ⟨n, rfl⟩ : ∃ m, n = m + 1 := ⟨n - 1, by simp only [dp] at hd; omega⟩
    refine okD3 fun d hd => ?_
    simp only [List.mem_cons, List.not_mem_nil, or_false] at hd
    rcases hd with rfl | rfl
    · exact okD_nm (by decide +kernel) _
    · exact okD_tx h hT.1 _
  | en z =>
    intro n hT hd
    obtain ⟨n, rfl⟩ : ∃ m, n = m + 1 := ⟨n - 1, by simp only [dp] at hd; omega⟩
    refine okD3 fun d hd => ?_
    simp only [List.mem_cons, List.not_mem_nil, or_false] at hd
    rcases hd with rfl | rfl
    · exact okD_nm (by decide +kernel) _
    · exact okD_tx h hT.1 _
  | nt s ih =>
    intro n hT hd
    obtain ⟨n, rfl⟩ : ∃ m, n = m + 1 := ⟨n - 1, by simp only [dp] at hd; omega⟩
    refine okD3 fun d hd2 => ?_
    simp only [List.mem_cons, List.not_mem_nil, or_false] at hd2
    rcases hd2 with rfl | rfl
    · exact okD_nm (by decide +kernel) _
    · exact ih n hT (by simp only [dp] at hd; omega)
  | bo s t ih1 ih2 =>
    intro n hT hd
    obtain ⟨n, rfl⟩ : ∃ m, n = m + 1 := ⟨n - 1, by simp only [dp] at hd; omega⟩
    refine okD3 fun d hd2 => ?_
    simp only [List.mem_cons, List.not_mem_nil, or_false] at hd2
    rcases hd2 with rfl | rfl | rfl
    · exact okD_nm (by decide +kernel) _
    · exact ih1 n hT.1 (by simp only [dp] at hd; omega)
    · exact ih2 n hT.2 (by simp only [dp] at hd; omega)
  | ei s t ih1 ih2 =>
    intro n hT hd
    obtain ⟨n, rfl⟩ : ∃ m, n = m + 1 := ⟨n - 1, by simp only [dp] at hd; omega⟩
    refine okD3 fun d hd2 => ?_
    simp only [List.mem_cons, List.not_mem_nil, or_false] at hd2
    rcases hd2 with rfl | rfl | rfl
    · exact okD_nm (by decide +kernel) _
    · exact ih1 n hT.1 (by simp only [dp] at hd; omega)
    · exact ih2 n hT.2 (by simp only [dp] at hd; omega)
theorem okD_ru {tg og : List Str} (h : Tg tg) (g : Tg og) {ss : List Sn} (hs : Ss og ss) : okD (ruD tg ss) 11 = true := by
  refine okD3 fun d hd => ?_
  simp only [List.mem_cons, List.not_mem_nil, or_false] at hd
  rcases hd with rfl | rfl
  · refine okD3 (n := 9) fun d hd => ?_
    obtain ⟨y, hy, rfl⟩ := List.mem_map.mp hd
    exact okD_tx h (fun c hc => in_zs hy hc) _
  · refine okD3 (n := 9) fun d hd => ?_
    obtain ⟨s, hs', rfl⟩ := List.mem_map.mp hd
    exact okD_sD g s 9 (hs.tx s hs') (by have := hs.dp s hs'; omega)
theorem Ss.map {tg og : List Str} (h : Tg tg) (hL : Like tg og) {ss : List Sn} (hs : Ss tg ss) : Ss og (ss.map (mapS (rh tg og))) := by
  refine ⟨fun s hm => ?_, fun s hm => ?_, by rw [List.length_map]; exact hs.few⟩
  · obtain ⟨t, ht, rfl⟩ := List.mem_map.mp hm
    exact (hs.tx t ht).map h hL
  · obtain ⟨t, ht, rfl⟩ := List.mem_map.mp hm
    rw [mapS_dp]
    exact hs.dp t ht
theorem Ss.back {tg og : List Str} (h : Tg tg) (g : Tg og) (hL : Like tg og) {ss : List Sn} (hs : Ss tg ss) : (ss.map (mapS (rh tg og))).map (mapS (rh og tg)) = ss := by
  rw [List.map_map]
  conv => rhs; rw [← List.map_id ss]
  exact List.map_congr_left fun s hm => mapS_back h g hL (hs.tx s hm)
theorem tg_bk {tg : List Str} (h : Tg tg) : Bk 2 400 (.tup (strsL tg)) := by
  have hi := h.inv
  refine tup_bk (fun d hd => ?_) (by have := hi.four; simp only [strsL, List.length_map]; omega)
  obtain ⟨y, hy, rfl⟩ := List.mem_map.mp hd
  refine Tx.bk1 ⟨fun c hc => ?_, by have := (hi.len y hy).2; omega⟩
  have := hi.good c (in_zs hy hc)
  simp only [A_k39.T.goodB, Bool.and_eq_true, decide_eq_true_eq] at this
  omega
section
variable {C : AH} {P : D → AH → Prop}
theorem heard_ok {tg : List Str} (h : Tg tg) {d : D} (hd : Nt tg d) {z : Str} (hz : In tg z) (hl : z.length ≤ 1000) {ss : List Sn} (hs : Ss tg ss) (k : ∀ C', AL.Keep C C' → P (.bl true) C') : s_law_heard [.tup (strsL tg), d, .str z, ruD tg ss] C P := by
  have hb : blk d ≤ 8000 := Nat.le_trans hd.bk.2 (by omega)
  unfold s_law_heard a_law_heard
  walk_at "go"
  intro q hq
  have hK := (AL.Keep.refl C).put (c := .lst []) hq
  have hCq : (put C q (.lst [])) q = some (.lst (List.replicate 0 (.bl true))) := put_same
  generalize put C q (.lst []) = C1 at hK hCq
  walk_at "go"
  refine g_kForR0 (fun i st C' => ∃ x5 x6 x7, AL.Keep C C' ∧ C' q = some (.lst (List.replicate i (.bl true))) ∧ st = [some (.tup (strsL tg)), some d, some (.str z), some (ruD tg ss), some (.ce q), x5, x6, x7]) ⟨_, _, _, hK, hCq, rfl⟩ (fun i st C' hi hw => ?_) (fun st C' hw => ?_)
  · obtain ⟨x5, x6, x7, hK, hCq, rfl⟩ := hw
    have hi2 : i < 2 := hi
    walk_at "go"
    by_cases hi0 : i = 0
    · subst hi0
      refine g_ifT (fun K hK => ?_) ?_
      · walk_at "go"
        exact hK
      walk_at "go"
      refine xword_ok h hd.bk.1 hb hz (by omega) (fun og e _ hL => absurd ⟨og, e, hL⟩ hd.no) fun _ => ?_
      refine g_handA (by decide +kernel) fun a ha => ?_
      have haq : q ≠ a := ne_cell hCq ha
      have hK := hK.put (c := .exc "NoTongue") (hK.none ha)
      have hCq := put_other (d := .exc "NoTongue") haq hCq
      have hCa : (put C' a (.exc "NoTongue")) a = some (.exc "NoTongue") := put_same
      generalize put C' a (.exc "NoTongue") = C2 at hK hCq hCa
      walk_at "go"
      rw [show isNon (D.ce a) = false from rfl]
      refine g_kAnd (fun _ => ?_) (fun z => nomatch z)
      walk_at "go"
      refine mark_NoTongue hCa fun C3 hK3 => ?_
      have hK := hK.trans hK3
      have hCq := hK3 q _ hCq
      walk_at "go"
      refine g_append hCq (by simp [sizeLine]) ?_
      exact ⟨_, _, _, hK.put hq, by rw [put_same]; rfl, rfl⟩
    · have : i = 1 := by omega
      subst this
      refine g_ifF (fun K hK => ?_) ?_
      · walk_at "go"
        exact hK
      walk_at "go"
      refine xrule_ok h hd.bk.1 hb hs (fun og e _ hL => absurd ⟨og, e, hL⟩ hd.no) fun _ => ?_
      refine g_handA (by decide +kernel) fun a ha => ?_
      have haq : q ≠ a := ne_cell hCq ha
      have hK := hK.put (c := .exc "NoTongue") (hK.none ha)
      have hCq := put_other (d := .exc "NoTongue") haq hCq
      have hCa : (put C' a (.exc "NoTongue")) a = some (.exc "NoTongue") := put_same
      generalize put C' a (.exc "NoTongue") = C2 at hK hCq hCa
      walk_at "go"
      rw [show isNon (D.ce a) = false from rfl]
      refine g_kAnd (fun _ => ?_) (fun z => nomatch z)
      walk_at "go"
      refine mark_NoTongue hCa fun C3 hK3 => ?_
      have hK := hK.trans hK3
      have hCq := hK3 q _ hCq
      walk_at "go"
      refine g_append hCq (by simp [sizeLine]) ?_
      exact ⟨_, _, _, hK.put hq, by rw [put_same]; rfl, rfl⟩
  · obtain ⟨x5, x6, x7, hK, hCq, rfl⟩ := hw
    have hCq : C' q = some (.lst [.bl true, .bl true]) := hCq
    refine g_frzL rfl hCq ?_
    have hK := hK.del hq
    generalize AL.del C' q = C2 at hK
    walk_at "go"
    refine g_eqR 2 rfl (by omega) ?_
    exact k C2 hK
end
end A_k39
namespace A_k39
open PySem L2 AL
def deepS (z : Str) : Sn := .bo (.nt (.nt (.be z))) (.ei (.often z 3) (.en (revS z)))
theorem some_ok {tg : List Str} {z : Str} (hz : In tg z) (hl : z.length ≤ 20) : TxI tg (deepS z) ∧ TxI tg (.often (revS z) 2) := by
  have hr : In tg (revS z) := fun c hc => hz c (by
    rw [revS_toList] at hc
    exact List.mem_reverse.mp hc)
  have hrl : (revS z).length ≤ 20 := by rw [revS_len]; exact hl
  exact ⟨⟨⟨hz, hl⟩, ⟨hz, hl⟩, ⟨hr, hrl⟩⟩, ⟨hr, hrl⟩⟩
theorem pen_keep {n : Nat} {C C' : AH} {p : Addr} (h : Pen n C p) (hK : AL.Keep C C') : Pen n C' p := by
  obtain ⟨c, h1, h2⟩ := h
  exact ⟨c, hK p c h1, h2⟩
theorem or_text {tg : List Str} {sx : Str} (hs : In tg sx) (hl : sx.length ≤ 20) {e : AE'} {s : ASt} {K : D → AH → Prop} {C : AH} (he : ∀ K' : D → AH → Prop, (∀ c, c ∈ zs tg → K' (.str (oneS c)) C) → e s C K') (k : ∀ z, In tg z → z.length ≤ 20 → K (.str z) C) : kOrV e s K (.str sx) C := by
  unfold kOrV
  cases hb : truth C (.str sx) with
  | none => rw [show truth C (.str sx) = if sx.length ≤ sizeLine then some ((sx.length : Int) != 0) else none from rfl, if_pos (by simp only [sizeLine]; omega)] at hb; cases hb
  | some b =>
  cases b with
  | true => exact k sx hs hl
  | false => exact he K fun c hc => k _ (fun a ha => by rw [show a = c by simpa [oneS] using ha]; exact hc) (by show 1 ≤ 20; omega)
theorem cut_in {x : Str} {lo hi : Option Int} {c : Nat} (h : c ∈ (cutS x lo hi).cps.toList) : c ∈ x.cps.toList := by
  rw [cutS_l] at h
  exact List.mem_of_mem_drop (List.mem_of_mem_take h)
theorem cut_le (x : Str) (lo hi : Option Int) : (cutS x lo hi).length ≤ x.length := by
  rw [← AL.len_toList, cutS_l, List.length_take, List.length_drop, AL.len_toList]
  omega
theorem law_true : ∀ ns : List Int, ns.length ≤ 63 → s_law [.scr ns] (fun _ => none) (fun d _ => d = .bl true) := by
  intro ns _
  unfold s_law a_law a_lawW
  walk_at "go"
  refine g_kForR0 (fun i st C' => ∃ x1 x2 x3 x4 x5 x6 x7 x8 x9 x10 x11 x12, st = [some (.scr ns), x1, x2, x3, x4, x5, x6, x7, x8, x9, x10, x11, x12]) ⟨_, _, _, _, _, _, _, _, _, _, _, _, rfl⟩ (fun i st C' hi hw => ?_) (fun st C' hw => ?_)
  · obtain ⟨x1, x2, x3, x4, x5, x6, x7, x8, x9, x10, x11, x12, rfl⟩ := hw
    walk_at "go"
    have hi2 : i < 2 := hi
    refine pen_ok (j := i) (by omega) fun p c hp hc => ?_
    have hP := pen_put (C := C') (p := p) hc
    generalize put C' p c = C1 at hP
    walk_at "go"
    refine tongue_ok (n := 999000) (hP.less) fun tg C2 h hP _ => ?_
    have hz := h.zpos
    have h12 := h.inv.size
    have hjl : (Txt.join "" tg).length = (zs tg).length := (AL.len_toList _).symm
    walk_at "go"
    refine other_ok (n := 998000) h (hP.less) fun og C3 g hL hP _ => ?_
    have bt := tg_bk h
    have bo := tg_bk g
    walk_at "go"
    refine rule_ok (n := 997000) h (by decide +kernel) (hP.less) fun ss C4 hss hsl hP _ => ?_
    walk_at "go"
    refine g_joinT h.sz ?_
    walk_at "go"
    refine draw_ok (n := 996999) (m := 3) hP (by omega) (by omega) fun c d hc hd => ?_
    have hP := pen_put (C := C4) (p := p) hc
    generalize put C4 p c = C5 at hP
    walk_at "go"
    refine g_cutSt (by omega) ?_
    have hc1 : ∀ c ∈ (cutS (Txt.join "" tg) (some (d : Int)) none).cps.toList, c ∈ zs tg := fun c hc => cut_in hc
    have hc2 := cut_le (Txt.join "" tg) (some (d : Int)) none
    generalize cutS (Txt.join "" tg) (some (d : Int)) none = s1 at hc1 hc2
    walk_at "go"
    refine draw_ok (n := 996998) (m := 4) hP (by omega) (by omega) fun c e hc he => ?_
    have hP := pen_put (C := C5) (p := p) hc
    generalize put C5 p c = C6 at hP
    walk_at "go"
    refine g_cutSt (by omega) ?_
    have hs1 : In tg (cutS s1 none (some (1 + (e : Int)))) := fun c hc => hc1 c (cut_in hc)
    have hs2 := cut_le s1 none (some (1 + (e : Int)))
    generalize cutS s1 none (some (1 + (e : Int))) = sx at hs1 hs2
    refine or_text hs1 (by omega) (fun K' hK' => ?_) fun z0 hz0 hzl0 => ?_
    · have h1 := h.inv.one
      have hy := (h.inv.len tg[0] (List.getElem_mem _))
      walk_at "go"
      refine g_ixT (d := .str tg[0]) (atI_nat' (i := 0) (by unfold strsL; rw [List.getElem?_map, List.getElem?_eq_getElem (by omega)]; rfl)) ?_
      walk_at "go"
      exact g_ixO (i := 0) (by omega) (by omega) fun c hc => hK' c (in_zs (List.getElem_mem _) hc)
    obtain ⟨t1, t2⟩ := some_ok hz0 hzl0
    have hS : Ss tg (ss ++ [deepS z0, .often (revS z0) 2]) := by
      refine ⟨fun s hs => ?_, fun s hs => ?_, by rw [List.length_append]; simp only [List.length_cons, List.length_nil]; omega⟩
      · rcases List.mem_append.mp hs with q | q
        · exact (hss s q).1
        · simp only [List.mem_cons, List.not_mem_nil, or_false] at q
          rcases q with rfl | rfl
          · exact t1
          · exact t2
      · rcases List.mem_append.mp hs with q | q
        · have := (hss s q).2; omega
        · simp only [List.mem_cons, List.not_mem_nil, or_false] at q
          rcases q with rfl | rfl
          · show max (1 + 1 + 1) (max 1 1 + 1) + 1 ≤ 8; decide
          · show 1 ≤ 8; decide
    rw [show ruD tg ss = .tup [.tup (strsL tg), .tup (ss.map sD)] from rfl]
    walk_at "go"
    refine g_revS (by simp only [sizeLine]; omega) ?_
    walk_at "go"
    refine g_revS (by simp only [sizeLine]; omega) ?_
    walk_at "go"
    refine g_addT (by rw [List.length_map]; simp only [List.length_cons, List.length_nil, sizeLine]; omega) ?_
    walk_at "go"
    have eR : D.tup [.tup (strsL tg), .tup (ss.map sD ++ [.tup [.str "both", .tup [.str "not", .tup [.str "not", .tup [.str "begins", .str z0]]], .tup [.str "either", .tup [.str "often", .str z0, .int 3], .tup [.str "ends", .str (revS z0)]]], .tup [.str "often", .str (revS z0), .int 2]])] = ruD tg (ss ++ [deepS z0, .often (revS z0) 2]) := by
      unfold ruD
      rw [List.map_append]
      rfl
    rw [eR]
    generalize ss ++ [deepS z0, .often (revS z0) 2] = rs at hS
    clear eR t1 t2 hss hsl
    refine g_kForR0 (fun j st C' => ∃ (z : Str) (x9 x10 : Option D) (x7 : Option D), In tg z ∧ z.length ≤ 60 ∧ Pen (996000 - 100 * j) C' p ∧ st = [some (.scr ns), some (.int (i : Nat)), some (.ce p), some (.tup (strsL tg)), some (.tup (strsL og)), some (ruD tg rs), some (.str z0), x7, some (.str z), x9, x10, x11, x12]) ⟨"", _, _, _, (fun c hc => by rw [show ("" : Str).cps.toList = [] by decide +kernel] at hc; cases hc), (by show 0 ≤ 60; omega), hP.less, rfl⟩ (fun j st C7 hj hw => ?_) (fun st C7 hw => ?_)
    · obtain ⟨z, x9, x10, x7, hzI, hzl, hP, rfl⟩ := hw
      have hj3 : j < 3 := hj
      walk_at "go"
      refine xword_ok h bo.1 (Nat.le_trans bo.2 (by omega)) hzI (by omega) (fun og' e g' hL' => ?_) (fun hno => absurd ⟨og, rfl, hL⟩ hno)
      have eo := strs_inj (D.tup.inj e)
      subst eo
      walk_at "go"
      refine g_ifF (fun K hK => ?_) ?_
      · walk_at "go"
        rw [show isT "str" "str" = true from rfl]
        walk_at "go"
        refine law_by_ok h g hL (by omega) hzI ?_
        walk_at "go"
        rw [decide_eq_true rfl]
        exact hK
      walk_at "go"
      refine g_ifF (fun K hK => ?_) ?_
      · walk_at "go"
        refine xword_ok g bt.1 (Nat.le_trans bt.2 (by omega)) (hzI.map h hL) (by rw [mapT_len]; omega) (fun tg' e2 _ _ => ?_) (fun hno => absurd ⟨tg, rfl, hL.symm⟩ hno)
        have et := strs_inj (D.tup.inj e2)
        subst et
        rw [mapT_back fun c hc => rh_back h g hL (hzI c hc)]
        walk_at "go"
        rw [decide_eq_true rfl]
        exact hK
      walk_at "go"
      have : j = 0 ∨ j = 1 ∨ j = 2 := by omega
      rcases this with rfl | rfl | rfl
      · refine g_ixL (d := .int 9) rfl ?_
        refine text_ok (n := 996000 - 100 * 1) (m := 9) h (by omega) (by omega) (hP.less) fun z2 C8 h1 _ h3 hP _ => ?_
        walk_at "go"
        exact ⟨z2, _, _, _, h1, by omega, hP, rfl⟩
      · refine g_ixL (d := .int 60) rfl ?_
        refine text_ok (n := 996000 - 100 * 2) (m := 60) h (by omega) (by omega) (hP.less) fun z2 C8 h1 _ h3 hP _ => ?_
        walk_at "go"
        exact ⟨z2, _, _, _, h1, by omega, hP, rfl⟩
      · refine g_ixL (d := .int 9) rfl ?_
        refine text_ok (n := 996000 - 100 * 3) (m := 9) h (by omega) (by omega) (hP.less) fun z2 C8 h1 _ h3 hP _ => ?_
        walk_at "go"
        exact ⟨z2, _, _, _, h1, by omega, hP, rfl⟩
    · obtain ⟨z, x9, x10, x7, hzI, hzl, hP, rfl⟩ := hw
      have hP : Pen 995000 C7 p := hP.less
      have hfew := hS.few
      have eU : ∀ t ss, ruD t ss = .tup [.tup (strsL t), .tup (ss.map sD)] := fun _ _ => rfl
      rw [eU]
      walk_at "go"
      refine g_kLc (fun k acc C' => acc = (rs.take k).map (fun s => sD (mapS (rh tg og) s)) ∧ AL.Keep C7 C') (by rw [List.length_map]; simp only [sizeLine]; omega) ⟨rfl, AL.Keep.refl _⟩ (fun k d acc C' hk hw => ?_) (fun acc C' hw => ?_)
      · obtain ⟨rfl, hK⟩ := hw
        rw [List.getElem?_map] at hk
        cases q : rs[k]? with
        | none => rw [q] at hk; cases hk
        | some s =>
          rw [q] at hk
          cases hk
          have hm := List.mem_of_getElem? q
          walk_at "go"
          refine lsentence_by_ok h g hL 8 s (hS.tx s hm) (hS.dp s hm) _ _ fun C8 hK8 => ?_
          refine ⟨?_, hK.trans hK8⟩
          rw [List.take_add_one, q, List.map_append]
          rfl
      obtain ⟨rfl, hK⟩ := hw
      rw [List.length_map, List.take_length]
      have hP := pen_keep hP hK
      have hS2 := hS.map h hL
      have ed : D.tup [.tup (strsL tg), .tup (rs.map fun s => sD (mapS (rh tg og) s))] = ruD tg (rs.map (mapS (rh tg og))) := by unfold ruD; rw [List.map_map]; rfl
      walk_at "go"
      rw [ed, ← eU]
      refine xrule_ok h bo.1 (Nat.le_trans bo.2 (by omega)) hS (fun og' e g' hL' => ?_) (fun hno => absurd ⟨og, rfl, hL⟩ hno)
      have eo := strs_inj (D.tup.inj e)
      subst eo
      walk_at "go"
      refine g_ifF (fun K hK => ?_) ?_
      · rw [eU tg (rs.map (mapS (rh tg og)))]
        walk_at "go"
        rw [show isT "tuple" "tuple" = true from rfl]
        walk_at "go"
        rw [show isT "tuple" "tuple" = true from rfl]
        walk_at "go"
        rw [← eU tg (rs.map (mapS (rh tg og)))]
        refine g_neR 11 (okD_ru h g hS2) (by decide) ?_
        walk_at "go"
        exact hK
      walk_at "go"
      refine g_ifF (fun K hK => ?_) ?_
      · rw [eU tg (rs.map (mapS (rh tg og))), eU tg rs]
        walk_at "go"
        rw [← eU og (rs.map (mapS (rh tg og)))]
        refine xrule_ok g bt.1 (Nat.le_trans bt.2 (by omega)) hS2 (fun tg' e2 _ _ => ?_) (fun hno => absurd ⟨tg, rfl, hL.symm⟩ hno)
        have et := strs_inj (D.tup.inj e2)
        subst et
        rw [hS.back h g hL]
        walk_at "go"
        rw [← eU og rs]
        refine g_neR 11 (okD_ru g h hS) (by decide) ?_
        walk_at "go"
        exact hK
      walk_at "go"
      refine no_tongues_ok h g hL fun ds hds hd1 hd2 => ?_
      walk_at "go"
      refine g_kForR0 (fun j st C' => ∃ x9, Pen (994000 - 100 * j) C' p ∧ st = [some (.scr ns), some (.int (i : Nat)), some (.ce p), some (.tup (strsL tg)), some (.tup (strsL og)), some (ruD tg rs), some (.lst ds), x7, some (.str z), x9, some (ruD tg (rs.map (mapS (rh tg og)))), some (ruD tg (rs.map (mapS (rh tg og)))), x12]) ⟨_, hP.less, rfl⟩ (fun j st C8 hj hw => ?_) (fun st C8 hw => ?_)
      · obtain ⟨x9, hP, rfl⟩ := hw
        have hj4 : j < 4 := hj
        refine g_ifS ?_
        walk_at "go"
        refine draw_ok (n := 994000 - 100 * (j + 1)) (hP.less) (by omega) (by omega) fun c t hc ht => ?_
        have hP := pen_put (C := C8) (p := p) hc
        generalize put C8 p c = C9 at hP
        refine g_ixL (d := ds[t]) (atI_nat' (List.getElem?_eq_getElem ht)) ?_
        walk_at "go"
        refine heard_ok h (hds _ (List.getElem_mem ht)) hzI (by omega) hS fun C10 hK10 => ?_
        walk_at "go"
        exact ⟨_, pen_keep hP hK10, rfl⟩
      · obtain ⟨x9, hP, rfl⟩ := hw
        exact ⟨_, _, _, _, _, _, _, _, _, _, _, _, rfl⟩
  · obtain ⟨x1, x2, x3, x4, x5, x6, x7, x8, x9, x10, x11, x12, rfl⟩ := hw
    walk_at "go"
    rfl
end A_k39
namespace A_k39
open PySem PySem.Spec L2 AL
open PyProof.Rows (envOfC)
def topS (i : Nat) : Stmt := PySem.Challenge.pw_wordrules_k39_words_and_rules_exchanged.main.body.getD i (.Pass ⟨0, 0, 0, 0⟩)
abbrev st_is_sign : Stmt := topS 22
theorem sc_is_sign : FnScope ["thing"] ["thing"] (defScope st_is_sign) := ⟨rfl, rfl, rfl, by decide +kernel, rfl, by decide +kernel, by decide +kernel⟩
theorem ok_is_sign {P : Program} {w : World} {K : PySem.W.Frag} {mg : Str → Option Value} {base : Heap} {f : Addr} {fd : FuncData} (F : L2.Fun K "is_sign" "is_sign" st_is_sign f fd) (hm : mg "is_sign" = some (.ref f)) (hb : Binds K fd ["thing"] []) (m_len : mg "len" = none) (m_ord : mg "ord" = none) (g_FIRST_SIGN : ∃ u, mg "FIRST_SIGN" = some u ∧ RelV (.int 33) u) (g_LAST_SIGN : ∃ u, mg "LAST_SIGN" = some u ∧ RelV (.int 126) u) (g_NO_SIGN : ∃ u, mg "NO_SIGN" = some u ∧ RelV (.int 37) u) : Cal P w K mg base 1 "is_sign" 1 s_is_sign := by
  refine calA (b := a_is_sign) F sc_is_sign rfl hm hb ?_ (fun _ _ _ _ h => h)
  intro cdv A outer s H E hr hgd
  have hw : (Bs.nil ⟨w, mg⟩).g = ⟨w, mg⟩ := rfl
  exact ⟨_, ass_one (as_ret (ae_and (K := K) (ae_cmp (ao_eq (K := K) hr.units) (ae_callB (ac_len (K := K)) m_len (by decide +kernel) (aa_cons (ae_v 0) (aa_nil))) (ae_int)) (ae_and (K := K) (ae_chain ao_le ao_le (ae_gint g_FIRST_SIGN) (ae_callB ac_ord m_ord (by decide +kernel) (aa_cons (ae_v 0) (aa_nil))) (ae_gint g_LAST_SIGN)) (ae_one (ae_cmp (ao_ne (K := K) hr.units) (ae_callB ac_ord m_ord (by decide +kernel) (aa_cons (ae_v 0) (aa_nil))) (ae_gint g_NO_SIGN))))))⟩
abbrev st_signs_of : Stmt := topS 24
theorem sc_signs_of : FnScope ["tongue"] ["tongue"] (defScope st_signs_of) := ⟨rfl, rfl, rfl, by decide +kernel, rfl, by decide +kernel, by decide +kernel⟩
theorem ok_signs_of {P : Program} {w : World} {K : PySem.W.Frag} {mg : Str → Option Value} {base : Heap} {f : Addr} {fd : FuncData} (F : L2.Fun K "signs_of" "signs_of" st_signs_of f fd) (hm : mg "signs_of" = some (.ref f)) (hb : Binds K fd ["tongue"] []) : Cal P w K mg base 1 "signs_of" 1 s_signs_of := by
  refine calA (b := a_signs_of) F sc_signs_of rfl hm hb ?_ (fun _ _ _ _ h => h)
  intro cdv A outer s H E hr hgd
  have hw : (Bs.nil ⟨w, mg⟩).g = ⟨w, mg⟩ := rfl
  exact ⟨_, ass_one (as_ret (ae_meth (K := K) PySem.F.plainAttrs_str PySem.F.slot_str_join PySem.F.type_str_join (am_join (K := K)) (ae_str) (aa_cons (ae_v 0) (aa_nil))))⟩
abbrev st_text_by : Stmt := topS 27
theorem sc_text_by : FnScope ["table", "text", "sign"] ["table", "text"] (defScope st_text_by) := ⟨rfl, rfl, rfl, by decide +kernel, rfl, by decide +kernel, by decide +kernel⟩
theorem ok_text_by {P : Program} {w : World} {K : PySem.W.Frag} {mg : Str → Option Value} {base : Heap} {f : Addr} {fd : FuncData} (F : L2.Fun K "text_by" "text_by" st_text_by f fd) (hm : mg "text_by" = some (.ref f)) (hb : Binds K fd ["table", "text"] []) : Cal P w K mg base 1 "text_by" 2 s_text_by := by
  refine calA (b := a_text_by) F sc_text_by rfl hm hb ?_ (fun _ _ _ _ h => h)
  intro cdv A outer s H E hr hgd
  have hw : (Bs.nil ⟨w, mg⟩).g = ⟨w, mg⟩ := rfl
  exact ⟨_, ass_one (as_ret (ae_meth (K := K) PySem.F.plainAttrs_str PySem.F.slot_str_join PySem.F.type_str_join (am_join (K := K)) (ae_str) (aa_cons (ae_lc [("sign", 2)] sc_text_by.nd (ai_str (ae_v 1)) (blkOk_by (own := [("sign", 2)]) (N := ["table", "text", "sign"]) (sc := defScope st_text_by) (by decide +kernel)) (fun _ _ _ _ _ => ag_name 2 (vs := [2]) sc_text_by.nd rfl (.inl rfl)) (fun _ _ _ _ _ => ats_nil) (fun _ _ _ _ _ => ae_getK (hu_of hr) (ae_v 0) (ae_v 2))) (aa_nil))))⟩
abbrev st_law_pen : Stmt := topS 32
theorem sc_law_pen : FnScope ["_law_script", "_law_k", "_law_cell"] ["_law_script", "_law_k"] (defScope st_law_pen) := ⟨rfl, rfl, rfl, by decide +kernel, rfl, by decide +kernel, by decide +kernel⟩
theorem ok_law_pen {P : Program} {w : World} {K : PySem.W.Frag} {mg : Str → Option Value} {base : Heap} {f : Addr} {fd : FuncData} (F : L2.Fun K "_law_pen" "_law_pen" st_law_pen f fd) (hm : mg "_law_pen" = some (.ref f)) (hb : Binds K fd ["_law_script", "_law_k"] []) (m_len : mg "len" = none) : Cal P w K mg base 1 "_law_pen" 2 s_law_pen := by
  refine calA (b := a_law_pen) F sc_law_pen rfl hm hb ?_ (fun _ _ _ _ h => h)
  intro cdv A outer s H E hr hgd
  have hw : (Bs.nil ⟨w, mg⟩).g = ⟨w, mg⟩ := rfl
  exact ⟨_, ass_cons (as_set 2 sc_law_pen.nd (ae_op (ao_add (K := K)) (ae_op ao_mul (ae_int) (ae_v 1)) (ae_int)) rfl (.inl rfl))
      (ass_cons (as_if (at_cmp ao_lt (ae_v 1) (ae_callB (ac_len (K := K)) m_len (by decide +kernel) (aa_cons (ae_v 0) (aa_nil))))
      (ass_one (as_set 2 sc_law_pen.nd (ae_ix (K := K) (ae_v 0) (ae_v 1)) rfl (.inl rfl)))
      (ass_one (as_if (at_cmp ao_gt (ae_callB (ac_len (K := K)) m_len (by decide +kernel) (aa_cons (ae_v 0) (aa_nil))) (ae_int))
      (ass_one (as_set 2 sc_law_pen.nd (ae_op (ao_add (K := K)) (ae_op ao_mod (ae_ix (K := K) (ae_v 0) (ae_op ao_mod (ae_v 1) (ae_callB (ac_len (K := K)) m_len (by decide +kernel) (aa_cons (ae_v 0) (aa_nil))))) (ae_int)) (ae_op ao_mul (ae_int) (ae_v 1))) rfl (.inl rfl)))
      (ass_nil))))
      (ass_cons (as_if (at_cmp ao_ge (ae_v 2) (ae_op ao_pow (ae_int) (ae_int)))
      (ass_one (as_ret (ae_lstM (aa_cons (ae_op ao_sub (ae_v 2) (ae_op ao_pow (ae_int) (ae_int))) (aa_cons (ae_op ao_mod (ae_v 2) (ae_int)) (aa_cons (ae_int) (aa_nil)))))))
      (ass_nil))
      (ass_one (as_ret (ae_lstM (aa_cons (ae_int) (aa_cons (ae_op ao_mod (ae_v 2) (ae_int)) (aa_cons (ae_int) (aa_nil)))))))))⟩
abbrev st_law_draw : Stmt := topS 33
theorem sc_law_draw : FnScope ["_law_pen_here", "_law_many", "_law_drawn", "_law_number"] ["_law_pen_here", "_law_many"] (defScope st_law_draw) := ⟨rfl, rfl, rfl, by decide +kernel, rfl, by decide +kernel, by decide +kernel⟩
theorem ok_law_draw {P : Program} {w : World} {K : PySem.W.Frag} {mg : Str → Option Value} {base : Heap} {f : Addr} {fd : FuncData} (F : L2.Fun K "_law_draw" "_law_draw" st_law_draw f fd) (hm : mg "_law_draw" = some (.ref f)) (hb : Binds K fd ["_law_pen_here", "_law_many"] []) : Cal P w K mg base 1 "_law_draw" 2 s_law_draw := by
  refine calA (b := a_law_draw) F sc_law_draw rfl hm hb ?_ (fun _ _ _ _ h => h)
  intro cdv A outer s H E hr hgd
  have hw : (Bs.nil ⟨w, mg⟩).g = ⟨w, mg⟩ := rfl
  exact ⟨_, ass_cons (as_setL (ae_op (ao_add (K := K)) (ae_ix (K := K) (ae_v 0) (ae_int)) (ae_int)) (ae_v 0) (ae_int))
      (ass_cons (as_if (at_cmp ao_gt (ae_ix (K := K) (ae_v 0) (ae_int)) (ae_int))
      (ass_cons (as_set 2 sc_law_draw.nd (ae_op ao_mod (ae_ix (K := K) (ae_v 0) (ae_int)) (ae_v 1)) rfl (.inl rfl))
      (ass_cons (as_setL (ae_op ao_div (ae_ix (K := K) (ae_v 0) (ae_int)) (ae_v 1)) (ae_v 0) (ae_int))
      (ass_one (as_ret (ae_v 2)))))
      (ass_nil))
      (ass_cons (as_set 3 sc_law_draw.nd (ae_op ao_mod (ae_op (ao_add (K := K)) (ae_op (ao_add (K := K)) (ae_ix (K := K) (ae_v 0) (ae_int)) (ae_op ao_mul (ae_int) (ae_ix (K := K) (ae_v 0) (ae_int)))) (ae_int)) (ae_int)) rfl (.inl rfl))
      (ass_cons (as_set 3 sc_law_draw.nd (ae_op (ao_add (K := K)) (ae_op ao_mod (ae_op ao_mul (ae_v 3) (ae_v 3)) (ae_int)) (ae_op ao_mul (ae_int) (ae_ix (K := K) (ae_v 0) (ae_int)))) rfl (.inl rfl))
      (ass_cons (as_set 3 sc_law_draw.nd (ae_op ao_mod (ae_op ao_mul (ae_v 3) (ae_v 3)) (ae_int)) rfl (.inl rfl))
      (ass_one (as_ret (ae_op ao_mod (ae_op ao_div (ae_v 3) (ae_int)) (ae_v 1))))))))⟩
abbrev st_law_weight : Stmt := topS 38
theorem sc_law_weight : FnScope ["_law_tongue_here", "_law_sentence_here", "_law_name", "_law_total", "_law_sign"] ["_law_tongue_here", "_law_sentence_here"] (defScope st_law_weight) := ⟨rfl, rfl, rfl, by decide +kernel, rfl, by decide +kernel, by decide +kernel⟩
theorem ok_law_weight {P : Program} {w : World} {K : PySem.W.Frag} {mg : Str → Option Value} {base : Heap} {f : Addr} {fd : FuncData} (F : L2.Fun K "_law_weight" "_law_weight" st_law_weight f fd) (hm : mg "_law_weight" = some (.ref f)) (hb : Binds K fd ["_law_tongue_here", "_law_sentence_here"] []) (m_int : mg "int" = none) (m_len : mg "len" = none) : ∀ d, Cal P w K mg base (1 + d) "_law_weight" 2 (s_law_weight d)
  | 0 => by
    refine calA (b := aNoS) F sc_law_weight rfl hm hb ?_ (fun _ _ _ _ h => h.elim)
    intro cdv A outer s H E hr hgd
    exact ⟨_, ass_no⟩
  | d + 1 => by
    have c_law_weight := ok_law_weight (P := P) (w := w) (base := base) F hm hb m_int m_len d
    refine calA (b := a_law_weight (s_law_weight d)) F sc_law_weight rfl hm hb ?_ (fun _ _ _ _ h => h)
    intro cdv A outer s H E hr hgd
    have hw : (Bs.nil ⟨w, mg⟩).g = ⟨w, mg⟩ := rfl
    exact ⟨_, ass_cons (as_set 2 sc_law_weight.nd (ae_ix (K := K) (ae_v 1) (ae_int)) rfl (.inl rfl))
      (ass_cons (as_if (at_cmp (ao_eq (K := K) hr.units) (ae_v 2) (ae_str))
      (ass_one (as_ret (ae_call (K := K) (g := ⟨w, mg⟩) (hk := by first | exact Nat.le_refl _ | exact Nat.le_trans (by decide) (Nat.le_add_right 1 d)) c_law_weight hr hgd (aa_cons (ae_v 0) (aa_cons (ae_ix (K := K) (ae_v 1) (ae_int)) (aa_nil))))))
      (ass_nil))
      (ass_cons (as_if (at_cmp ao_inL (ae_v 2) (ae_tup (aa_cons (ae_str) (aa_cons (ae_str) (aa_nil)))))
      (ass_one (as_ret (ae_op ao_mul (ae_call (K := K) (g := ⟨w, mg⟩) (hk := by first | exact Nat.le_refl _ | exact Nat.le_trans (by decide) (Nat.le_add_right 1 d)) c_law_weight hr hgd (aa_cons (ae_v 0) (aa_cons (ae_ix (K := K) (ae_v 1) (ae_int)) (aa_nil)))) (ae_call (K := K) (g := ⟨w, mg⟩) (hk := by first | exact Nat.le_refl _ | exact Nat.le_trans (by decide) (Nat.le_add_right 1 d)) c_law_weight hr hgd (aa_cons (ae_v 0) (aa_cons (ae_ix (K := K) (ae_v 1) (ae_int)) (aa_nil)))))))
      (ass_nil))
      (ass_cons (as_if (aw_t (aw_and (at_cmp (ao_eq (K := K) hr.units) (ae_v 2) (ae_str)) (aw_and1 (at_cmp ao_is (ae_ix (K := K) (ae_v 1) (ae_int)) (ae_non)))))
      (ass_one (as_ret (ae_op (ao_add (K := K)) (ae_ix (K := K) (ae_v 1) (ae_int)) (ae_int))))
      (ass_nil))
      (ass_cons (as_if (at_cmp ao_inL (ae_v 2) (ae_tup (aa_cons (ae_str) (aa_cons (ae_str) (aa_nil)))))
      (ass_one (as_ret (ae_op (ao_add (K := K)) (ae_ix (K := K) (ae_v 1) (ae_int)) (ae_ix (K := K) (ae_lst (aa_cons (ae_int) (aa_cons (ae_int) (aa_nil)))) (ae_callT ac_int m_int (by decide +kernel) (aa_cons (ae_cmp (ao_eq (K := K) hr.units) (ae_v 2) (ae_str)) (aa_nil)))))))
      (ass_nil))
      (ass_cons (as_if (at_cmp (ao_eq (K := K) hr.units) (ae_v 2) (ae_str))
      (ass_cons (as_set 3 sc_law_weight.nd (ae_int) rfl (.inl rfl))
      (ass_cons (as_for (ai_str (ae_ix (K := K) (ae_v 1) (ae_int))) (ag_name 4 (vs := [4]) sc_law_weight.nd rfl (.inl rfl))
      (ass_one (as_set 3 sc_law_weight.nd (ae_op ao_mul (ae_v 3) (ae_op (ao_add (K := K)) (ae_ix (K := K) (ae_v 1) (ae_int)) (ae_int))) rfl (.inl rfl))))
      (ass_one (as_ret (ae_op (ao_add (K := K)) (ae_v 3) (ae_int))))))
      (ass_nil))
      (ass_cons (as_if (at_cmp (ao_eq (K := K) hr.units) (ae_v 2) (ae_str))
      (ass_one (as_ret (ae_op (ao_add (K := K)) (ae_callB (ac_len (K := K)) m_len (by decide +kernel) (aa_cons (ae_meth (K := K) PySem.F.plainAttrs_str PySem.F.slot_str_join PySem.F.type_str_join (am_join (K := K)) (ae_str) (aa_cons (ae_v 0) (aa_nil))) (aa_nil))) (ae_int))))
      (ass_nil))
      (ass_one (as_ret (ae_op (ao_add (K := K)) (ae_callB (ac_len (K := K)) m_len (by decide +kernel) (aa_cons (ae_ix (K := K) (ae_v 1) (ae_int)) (aa_nil))) (ae_ix (K := K) (ae_lst (aa_cons (ae_int) (aa_cons (ae_int) (aa_nil)))) (ae_callT ac_int m_int (by decide +kernel) (aa_cons (ae_cmp (ao_eq (K := K) hr.units) (ae_v 2) (ae_str)) (aa_nil)))))))))))))⟩
abbrev st_law_by : Stmt := topS 41
theorem sc_law_by : FnScope ["_law_tongue_here", "_law_other_here", "_law_text_here", "_law_signs", "_law_news", "_law_sign"] ["_law_tongue_here", "_law_other_here", "_law_text_here"] (defScope st_law_by) := ⟨rfl, rfl, rfl, by decide +kernel, rfl, by decide +kernel, by decide +kernel⟩
theorem ok_law_by {P : Program} {w : World} {K : PySem.W.Frag} {mg : Str → Option Value} {base : Heap} {f : Addr} {fd : FuncData} (F : L2.Fun K "_law_by" "_law_by" st_law_by f fd) (hm : mg "_law_by" = some (.ref f)) (hb : Binds K fd ["_law_tongue_here", "_law_other_here", "_law_text_here"] []) : Cal P w K mg base 1 "_law_by" 3 s_law_by := by
  refine calA (b := a_law_by) F sc_law_by rfl hm hb ?_ (fun _ _ _ _ h => h)
  intro cdv A outer s H E hr hgd
  have hw : (Bs.nil ⟨w, mg⟩).g = ⟨w, mg⟩ := rfl
  exact ⟨_, ass_cons (as_set 3 sc_law_by.nd (ae_meth (K := K) PySem.F.plainAttrs_str PySem.F.slot_str_join PySem.F.type_str_join (am_join (K := K)) (ae_str) (aa_cons (ae_v 0) (aa_nil))) rfl (.inr rfl))
      (ass_cons (as_set 4 sc_law_by.nd (ae_meth (K := K) PySem.F.plainAttrs_str PySem.F.slot_str_join PySem.F.type_str_join (am_join (K := K)) (ae_str) (aa_cons (ae_v 1) (aa_nil))) rfl (.inr rfl))
      (ass_one (as_ret (ae_meth (K := K) PySem.F.plainAttrs_str PySem.F.slot_str_join PySem.F.type_str_join (am_join (K := K)) (ae_str) (aa_cons (ae_lc [("_law_sign", 5)] sc_law_by.nd (ai_str (ae_v 2)) (blkOk_by (own := [("_law_sign", 5)]) (N := ["_law_tongue_here", "_law_other_here", "_law_text_here", "_law_signs", "_law_news", "_law_sign"]) (sc := defScope st_law_by) (by decide +kernel)) (fun _ _ _ _ _ => ag_name 5 (vs := [5]) sc_law_by.nd rfl (.inl rfl)) (fun _ _ _ _ _ => ats_nil) (fun _ _ _ _ _ => ae_ix (K := K) (ae_v 4) (ae_meth (K := K) PySem.F.plainAttrs_str PySem.F.slot_str_find PySem.F.type_str_find am_sfind (ae_v 3) (aa_cons (ae_v 5) (aa_nil))))) (aa_nil))))))⟩
abbrev st_law_mark : Stmt := topS 43
theorem sc_law_mark : FnScope ["_law_e", "_law_marks"] ["_law_e"] (defScope st_law_mark) := ⟨rfl, rfl, rfl, by decide +kernel, rfl, by decide +kernel, by decide +kernel⟩
theorem ok_law_mark {P : Program} {w : World} {K : PySem.W.Frag} {mg : Str → Option Value} {base : Heap} {f : Addr} {fd : FuncData} (F : L2.Fun K "_law_mark" "_law_mark" st_law_mark f fd) (hm : mg "_law_mark" = some (.ref f)) (hb : Binds K fd ["_law_e"] []) (m_ValueError : mg "ValueError" = none) (m_isinstance : mg "isinstance" = none) {R_Elder : Addr} (q_Elder : mg "Elder" = some (.ref R_Elder)) {R_Near : Addr} (q_Near : mg "Near" = some (.ref R_Near)) {R_NoBack : Addr} (q_NoBack : mg "NoBack" = some (.ref R_NoBack)) {R_NoFit : Addr} (q_NoFit : mg "NoFit" = some (.ref R_NoFit)) {R_NoLine : Addr} (q_NoLine : mg "NoLine" = some (.ref R_NoLine)) {R_NoName : Addr} (q_NoName : mg "NoName" = some (.ref R_NoName)) {R_NoNumber : Addr} (q_NoNumber : mg "NoNumber" = some (.ref R_NoNumber)) {R_NoSentence : Addr} (q_NoSentence : mg "NoSentence" = some (.ref R_NoSentence)) {R_NoText : Addr} (q_NoText : mg "NoText" = some (.ref R_NoText)) {R_NoTongue : Addr} (q_NoTongue : mg "NoTongue" = some (.ref R_NoTongue)) {R_NoWord : Addr} (q_NoWord : mg "NoWord" = some (.ref R_NoWord)) {R_TooMany : Addr} (q_TooMany : mg "TooMany" = some (.ref R_TooMany)) {R_TooMuch : Addr} (q_TooMuch : mg "TooMuch" = some (.ref R_TooMuch)) (isf : IsF K mg isubE) : Cal P w K mg base 1 "_law_mark" 1 s_law_mark := by
  refine calA (b := a_law_mark) F sc_law_mark rfl hm hb ?_ (fun _ _ _ _ h => h)
  intro cdv A outer s H E hr hgd
  have hw : (Bs.nil ⟨w, mg⟩).g = ⟨w, mg⟩ := rfl
  exact ⟨_, ass_cons (as_set 1 sc_law_mark.nd (ae_lstM (aa_cons (ae_isX (ae_v 0) (ac_own q_NoTongue) m_isinstance isf) (aa_cons (ae_isX (ae_v 0) (ac_own q_NoSentence) m_isinstance isf) (aa_cons (ae_isX (ae_v 0) (ac_own q_TooMany) m_isinstance isf) (aa_cons (ae_isX (ae_v 0) (ac_own q_TooMuch) m_isinstance isf) (aa_nil)))))) rfl (.inl rfl))
      (ass_cons (as_set 1 sc_law_mark.nd (ae_op ao_addM (ae_v 1) (ae_lst (aa_cons (ae_isX (ae_v 0) (ac_own q_NoNumber) m_isinstance isf) (aa_cons (ae_isX (ae_v 0) (ac_own q_NoWord) m_isinstance isf) (aa_cons (ae_isX (ae_v 0) (ac_own q_NoFit) m_isinstance isf) (aa_cons (ae_isX (ae_v 0) (ac_own q_Elder) m_isinstance isf) (aa_nil))))))) rfl (.inl rfl))
      (ass_cons (as_set 1 sc_law_mark.nd (ae_op ao_addM (ae_v 1) (ae_lst (aa_cons (ae_isX (ae_v 0) (ac_own q_Near) m_isinstance isf) (aa_cons (ae_isX (ae_v 0) (ac_own q_NoBack) m_isinstance isf) (aa_cons (ae_isX (ae_v 0) (ac_own q_NoText) m_isinstance isf) (aa_cons (ae_isX (ae_v 0) (ac_own q_NoLine) m_isinstance isf) (aa_nil))))))) rfl (.inl rfl))
      (ass_cons (as_expr (ae_meth (K := K) PySem.F.plainAttrs_list PySem.F.slot_list_append PySem.F.type_list_append am_append (ae_v 1) (aa_cons (ae_isX (ae_v 0) (ac_own q_NoName) m_isinstance isf) (aa_nil))))
      (ass_frz 1 (ass_cons (as_if (aw_t (aw_or (at_cmp (ao_ne (K := K) hr.units) (ae_meth (K := K) PySem.F.plainAttrs_list PySem.F.slot_list_count PySem.F.type_list_count (am_countB (K := K)) (ae_v 1) (aa_cons (ae_bl) (aa_nil))) (ae_int)) (aw_or1 (at_not (at_tru (K := K) (ae_isX (ae_v 0) (ac_val m_ValueError) m_isinstance isf))))))
      (ass_one (as_ret (ae_neg (ae_int))))
      (ass_nil))
      (ass_one (as_ret (ae_meth (K := K) PySem.F.plainAttrs_list PySem.F.slot_list_index PySem.F.type_list_index (am_indexB (K := K)) (ae_v 1) (aa_cons (ae_bl) (aa_nil))))))))))⟩
abbrev st_law_no_tongues : Stmt := topS 45
theorem sc_law_no_tongues : FnScope ["_law_tongue_here", "_law_other_here", "_law_strange", "_law_first", "_law_some", "_law_sign"] ["_law_tongue_here", "_law_other_here"] (defScope st_law_no_tongues) := ⟨rfl, rfl, rfl, by decide +kernel, rfl, by decide +kernel, by decide +kernel⟩
theorem ok_law_no_tongues {P : Program} {w : World} {K : PySem.W.Frag} {mg : Str → Option Value} {base : Heap} {f : Addr} {fd : FuncData} (F : L2.Fun K "_law_no_tongues" "_law_no_tongues" st_law_no_tongues f fd) (hm : mg "_law_no_tongues" = some (.ref f)) (hb : Binds K fd ["_law_tongue_here", "_law_other_here"] []) (m_len : mg "len" = none) (m_list : mg "list" = none) : Cal P w K mg base 1 "_law_no_tongues" 2 s_law_no_tongues := by
  refine calA (b := a_law_no_tongues) F sc_law_no_tongues rfl hm hb ?_ (fun _ _ _ _ h => h)
  intro cdv A outer s H E hr hgd
  have hw : (Bs.nil ⟨w, mg⟩).g = ⟨w, mg⟩ := rfl
  exact ⟨_, ass_cons (as_set 2 sc_law_no_tongues.nd (ae_ix (K := K) (ae_lc [("_law_sign", 5)] sc_law_no_tongues.nd (ai_str (ae_str)) (blkOk_by (own := [("_law_sign", 5)]) (N := ["_law_tongue_here", "_law_other_here", "_law_strange", "_law_first", "_law_some", "_law_sign"]) (sc := defScope st_law_no_tongues) (by decide +kernel)) (fun _ _ _ _ _ => ag_name 5 (vs := [5]) sc_law_no_tongues.nd rfl (.inl rfl)) (fun _ _ _ _ _ => ats_one (at_cmp ao_ninS (ae_v 5) (ae_meth (K := K) PySem.F.plainAttrs_str PySem.F.slot_str_join PySem.F.type_str_join (am_join (K := K)) (ae_str) (aa_cons (ae_v 0) (aa_nil))))) (fun _ _ _ _ _ => ae_v 5)) (ae_int)) rfl (.inl rfl))
      (ass_cons (as_set 3 sc_law_no_tongues.nd (ae_ix (K := K) (ae_v 1) (ae_int)) rfl (.inl rfl))
      (ass_cons (as_set 4 sc_law_no_tongues.nd (ae_lst (aa_cons (ae_cut (K := K) (ae_v 1) (ao_some (ae_int)) ao_none) (aa_cons (ae_op (ao_add (K := K)) (ae_v 1) (ae_tup (aa_cons (ae_v 2) (aa_nil)))) (aa_cons (ae_op (ao_add (K := K)) (ae_tup (aa_cons (ae_op (ao_add (K := K)) (ae_v 2) (ae_cut (K := K) (ae_v 3) (ao_some (ae_int)) ao_none)) (aa_nil))) (ae_cut (K := K) (ae_v 1) (ao_some (ae_int)) ao_none)) (aa_cons (ae_op (ao_add (K := K)) (ae_tup (aa_cons (ae_cut (K := K) (ae_v 3) (ao_some (ae_int)) ao_none) (aa_nil))) (ae_cut (K := K) (ae_v 1) (ao_some (ae_int)) ao_none)) (aa_cons (ae_callT (ac_list (K := K)) m_list (by decide +kernel) (aa_cons (ae_v 1) (aa_nil))) (aa_nil))))))) rfl (.inl rfl))
      (ass_cons (as_set 4 sc_law_no_tongues.nd (ae_op (ao_add (K := K)) (ae_v 4) (ae_lst (aa_cons (ae_meth (K := K) PySem.F.plainAttrs_str PySem.F.slot_str_join PySem.F.type_str_join (am_join (K := K)) (ae_str) (aa_cons (ae_v 1) (aa_nil))) (aa_cons (ae_non) (aa_cons (ae_int) (aa_cons (ae_bl) (aa_cons (ae_tup (aa_nil)) (aa_cons (ae_dict0F) (aa_cons (ae_op (ao_add (K := K)) (ae_tup (aa_cons (ae_op (ao_add (K := K)) (ae_v 3) (ae_ix (K := K) (ae_v 3) (ae_int))) (aa_nil))) (ae_cut (K := K) (ae_v 1) (ao_some (ae_int)) ao_none)) (aa_cons (ae_op (ao_add (K := K)) (ae_v 1) (ae_tup (aa_cons (ae_ix (K := K) (ae_v 3) (ae_int)) (aa_nil)))) (aa_cons (ae_tup (aa_cons (ae_str) (aa_nil))) (aa_nil)))))))))))) rfl (.inl rfl))
      (ass_cons (as_set 4 sc_law_no_tongues.nd (ae_op (ao_add (K := K)) (ae_v 4) (ae_lst (aa_cons (ae_op (ao_add (K := K)) (ae_tup (aa_cons (ae_op (ao_add (K := K)) (ae_v 3) (ae_v 2)) (aa_nil))) (ae_cut (K := K) (ae_v 1) (ao_some (ae_int)) ao_none)) (aa_cons (ae_op (ao_add (K := K)) (ae_tup (aa_cons (ae_non) (aa_nil))) (ae_cut (K := K) (ae_v 1) (ao_some (ae_int)) ao_none)) (aa_cons (ae_op (ao_add (K := K)) (ae_tup (aa_cons (ae_callT ac_listS m_list (by decide +kernel) (aa_cons (ae_v 3) (aa_nil))) (aa_nil))) (ae_cut (K := K) (ae_v 1) (ao_some (ae_int)) ao_none)) (aa_nil)))))) rfl (.inl rfl))
      (ass_cons (as_if (at_cmp ao_gt (ae_callB (ac_len (K := K)) m_len (by decide +kernel) (aa_cons (ae_v 1) (aa_nil))) (ae_int))
      (ass_one (as_set 4 sc_law_no_tongues.nd (ae_op (ao_add (K := K)) (ae_v 4) (ae_lst (aa_cons (ae_revT (K := K) (ae_v 1)) (aa_cons (ae_op (ao_add (K := K)) (ae_tup (aa_cons (ae_op (ao_add (K := K)) (ae_ix (K := K) (ae_ix (K := K) (ae_v 1) (ae_int)) (ae_int)) (ae_cut (K := K) (ae_v 3) (ao_some (ae_int)) ao_none)) (aa_cons (ae_op (ao_add (K := K)) (ae_ix (K := K) (ae_v 3) (ae_int)) (ae_cut (K := K) (ae_ix (K := K) (ae_v 1) (ae_int)) (ao_some (ae_int)) ao_none)) (aa_nil)))) (ae_cut (K := K) (ae_v 1) (ao_some (ae_int)) ao_none)) (aa_nil))))) rfl (.inl rfl)))
      (ass_nil))
      (ass_one (as_ret (ae_v 4))))))))⟩
abbrev st_is_tongue : Stmt := topS 23
theorem sc_is_tongue : FnScope ["thing", "signs", "sign", "kind"] ["thing"] (defScope st_is_tongue) := ⟨rfl, rfl, rfl, by decide +kernel, rfl, by decide +kernel, by decide +kernel⟩
theorem ok_is_tongue {P : Program} {w : World} {K : PySem.W.Frag} {mg : Str → Option Value} {base : Heap} {f : Addr} {fd : FuncData} (F : L2.Fun K "is_tongue" "is_tongue" st_is_tongue f fd) (hm : mg "is_tongue" = some (.ref f)) (hb : Binds K fd ["thing"] []) (m_all : mg "all" = none) (m_isinstance : mg "isinstance" = none) (m_len : mg "len" = none) (m_set : mg "set" = none) (m_str : mg "str" = none) (m_tuple : mg "tuple" = none) (g_MOST_IN_KIND : ∃ u, mg "MOST_IN_KIND" = some u ∧ RelV (.int 6) u) (g_MOST_KINDS : ∃ u, mg "MOST_KINDS" = some u ∧ RelV (.int 4) u) (g_MOST_SIGNS : ∃ u, mg "MOST_SIGNS" = some u ∧ RelV (.int 12) u) (c_is_sign : Cal P w K mg base 1 "is_sign" 1 s_is_sign) : Cal P w K mg base 2 "is_tongue" 1 s_is_tongue := by
  refine calA (b := a_is_tongue) F sc_is_tongue rfl hm hb ?_ (fun _ _ _ _ h => h)
  intro cdv A outer s H E hr hgd
  have hw : (Bs.nil ⟨w, mg⟩).g = ⟨w, mg⟩ := rfl
  exact ⟨_, ass_cons (as_if (aw_t (aw_or (at_not (at_tru (K := K) (ae_isi (K := K) (ae_v 0) m_isinstance m_tuple (by decide +kernel)))) (aw_or1 (at_not (at_chain ao_le ao_le (ae_int) (ae_callB (ac_len (K := K)) m_len (by decide +kernel) (aa_cons (ae_v 0) (aa_nil))) (ae_gint g_MOST_KINDS))))))
      (ass_one (as_ret (ae_bl)))
      (ass_nil))
      (ass_cons (as_if (at_not (at_tru (K := K) (ae_callB (ac_all (K := K)) m_all (by decide +kernel) (aa_cons (ae_lc [("kind", 3)] sc_is_tongue.nd (ai_tup (K := K) (ae_v 0)) (blkOk_by (own := [("kind", 3)]) (N := ["thing", "signs", "sign", "kind"]) (sc := defScope st_is_tongue) (by decide +kernel)) (fun _ _ _ _ _ => ag_name 3 (vs := [3]) sc_is_tongue.nd rfl (.inl rfl)) (fun _ _ _ _ _ => ats_nil) (fun _ _ _ _ _ => ae_and (K := K) (ae_isi (K := K) (ae_v 3) m_isinstance m_str (by decide +kernel)) (ae_one (ae_chain ao_le ao_le (ae_int) (ae_callB (ac_len (K := K)) m_len (by decide +kernel) (aa_cons (ae_v 3) (aa_nil))) (ae_gint g_MOST_IN_KIND))))) (aa_nil)))))
      (ass_one (as_ret (ae_bl)))
      (ass_nil))
      (ass_cons (as_set 1 sc_is_tongue.nd (ae_meth (K := K) PySem.F.plainAttrs_str PySem.F.slot_str_join PySem.F.type_str_join (am_join (K := K)) (ae_str) (aa_cons (ae_v 0) (aa_nil))) rfl (.inl rfl))
      (ass_cons (as_if (aw_t (aw_or (at_cmp ao_gt (ae_callB (ac_len (K := K)) m_len (by decide +kernel) (aa_cons (ae_v 1) (aa_nil))) (ae_gint g_MOST_SIGNS)) (aw_or1 (at_cmp ao_lt (ae_lenSetT m_len m_set (ae_v 1)) (ae_callB (ac_len (K := K)) m_len (by decide +kernel) (aa_cons (ae_v 1) (aa_nil)))))))
      (ass_one (as_ret (ae_bl)))
      (ass_nil))
      (ass_one (as_ret (ae_callB (ac_all (K := K)) m_all (by decide +kernel) (aa_cons (ae_lc [("sign", 2)] sc_is_tongue.nd (ai_str (ae_v 1)) (blkOk_by (own := [("sign", 2)]) (N := ["thing", "signs", "sign", "kind"]) (sc := defScope st_is_tongue) (by decide +kernel)) (fun _ _ _ _ _ => ag_name 2 (vs := [2]) sc_is_tongue.nd rfl (.inl rfl)) (fun _ _ _ _ _ => ats_nil) (fun _ _ _ _ _ => ae_call (K := K) (g := ⟨w, mg⟩) c_is_sign hr hgd (aa_cons (ae_v 2) (aa_nil)))) (aa_nil))))))))⟩
abbrev st_sentence_by : Stmt := topS 28
theorem sc_sentence_by : FnScope ["table", "sentence", "name"] ["table", "sentence"] (defScope st_sentence_by) := ⟨rfl, rfl, rfl, by decide +kernel, rfl, by decide +kernel, by decide +kernel⟩
theorem ok_sentence_by {P : Program} {w : World} {K : PySem.W.Frag} {mg : Str → Option Value} {base : Heap} {f : Addr} {fd : FuncData} (F : L2.Fun K "sentence_by" "sentence_by" st_sentence_by f fd) (hm : mg "sentence_by" = some (.ref f)) (hb : Binds K fd ["table", "sentence"] []) (c_text_by : Cal P w K mg base 1 "text_by" 2 s_text_by) : ∀ d, Cal P w K mg base (2 + d) "sentence_by" 2 (s_sentence_by d)
  | 0 => by
    refine calA (b := aNoS) F sc_sentence_by rfl hm hb ?_ (fun _ _ _ _ h => h.elim)
    intro cdv A outer s H E hr hgd
    exact ⟨_, ass_no⟩
  | d + 1 => by
    have c_sentence_by := ok_sentence_by (P := P) (w := w) (base := base) F hm hb c_text_by d
    refine calA (b := a_sentence_by (s_sentence_by d)) F sc_sentence_by rfl hm hb ?_ (fun _ _ _ _ h => h)
    intro cdv A outer s H E hr hgd
    have hw : (Bs.nil ⟨w, mg⟩).g = ⟨w, mg⟩ := rfl
    exact ⟨_, ass_cons (as_set 2 sc_sentence_by.nd (ae_ix (K := K) (ae_v 1) (ae_int)) rfl (.inl rfl))
      (ass_cons (as_if (at_cmp (ao_eq (K := K) hr.units) (ae_v 2) (ae_str))
      (ass_one (as_ret (ae_tup (aa_cons (ae_v 2) (aa_cons (ae_call (K := K) (g := ⟨w, mg⟩) (hk := by first | exact Nat.le_refl _ | exact Nat.le_trans (by decide) (Nat.le_add_right 2 d)) c_text_by hr hgd (aa_cons (ae_v 0) (aa_cons (ae_ix (K := K) (ae_v 1) (ae_int)) (aa_nil)))) (aa_cons (ae_ix (K := K) (ae_v 1) (ae_int)) (aa_nil)))))))
      (ass_nil))
      (ass_cons (as_if (at_cmp ao_inL (ae_v 2) (ae_tup (aa_cons (ae_str) (aa_cons (ae_str) (aa_cons (ae_str) (aa_nil))))))
      (ass_one (as_ret (ae_tup (aa_cons (ae_v 2) (aa_cons (ae_call (K := K) (g := ⟨w, mg⟩) (hk := by first | exact Nat.le_refl _ | exact Nat.le_trans (by decide) (Nat.le_add_right 2 d)) c_text_by hr hgd (aa_cons (ae_v 0) (aa_cons (ae_ix (K := K) (ae_v 1) (ae_int)) (aa_nil)))) (aa_nil))))))
      (ass_nil))
      (ass_cons (as_if (at_cmp (ao_eq (K := K) hr.units) (ae_v 2) (ae_str))
      (ass_one (as_ret (ae_tup (aa_cons (ae_v 2) (aa_cons (ae_call (K := K) (g := ⟨w, mg⟩) (hk := by first | exact Nat.le_refl _ | exact Nat.le_trans (by decide) (Nat.le_add_right 2 d)) c_sentence_by hr hgd (aa_cons (ae_v 0) (aa_cons (ae_ix (K := K) (ae_v 1) (ae_int)) (aa_nil)))) (aa_nil))))))
      (ass_nil))
      (ass_cons (as_if (aw_t (aw_or (at_cmp (ao_eq (K := K) hr.units) (ae_v 2) (ae_str)) (aw_or1 (at_cmp (ao_eq (K := K) hr.units) (ae_v 2) (ae_str)))))
      (ass_one (as_ret (ae_tup (aa_cons (ae_v 2) (aa_cons (ae_call (K := K) (g := ⟨w, mg⟩) (hk := by first | exact Nat.le_refl _ | exact Nat.le_trans (by decide) (Nat.le_add_right 2 d)) c_sentence_by hr hgd (aa_cons (ae_v 0) (aa_cons (ae_ix (K := K) (ae_v 1) (ae_int)) (aa_nil)))) (aa_cons (ae_call (K := K) (g := ⟨w, mg⟩) (hk := by first | exact Nat.le_refl _ | exact Nat.le_trans (by decide) (Nat.le_add_right 2 d)) c_sentence_by hr hgd (aa_cons (ae_v 0) (aa_cons (ae_ix (K := K) (ae_v 1) (ae_int)) (aa_nil)))) (aa_nil)))))))
      (ass_nil))
      (ass_one (as_ret (ae_v 1)))))))⟩
abbrev st_law_tongue : Stmt := topS 34
theorem sc_law_tongue : FnScope ["_law_pen_here", "_law_most", "_law_signs", "_law_amount", "_law_k", "_law_sizes", "_law_kinds", "_law_size", "_law_kind", "_law_at"] ["_law_pen_here", "_law_most"] (defScope st_law_tongue) := ⟨rfl, rfl, rfl, by decide +kernel, rfl, by decide +kernel, by decide +kernel⟩
theorem ok_law_tongue {P : Program} {w : World} {K : PySem.W.Frag} {mg : Str → Option Value} {base : Heap} {f : Addr} {fd : FuncData} (F : L2.Fun K "_law_tongue" "_law_tongue" st_law_tongue f fd) (hm : mg "_law_tongue" = some (.ref f)) (hb : Binds K fd ["_law_pen_here", "_law_most"] []) (m_len : mg "len" = none) (m_max : mg "max" = none) (m_range : mg "range" = none) (m_sum : mg "sum" = none) (m_tuple : mg "tuple" = none) (c_law_draw : Cal P w K mg base 1 "_law_draw" 2 s_law_draw) : Cal P w K mg base 2 "_law_tongue" 2 s_law_tongue := by
  refine calA (b := a_law_tongue) F sc_law_tongue rfl hm hb ?_ (fun _ _ _ _ h => h)
  intro cdv A outer s H E hr hgd
  have hw : (Bs.nil ⟨w, mg⟩).g = ⟨w, mg⟩ := rfl
  exact ⟨_, ass_cons (as_set 2 sc_law_tongue.nd (ae_str) rfl (.inl rfl))
      (ass_cons (as_set 3 sc_law_tongue.nd (ae_op (ao_add (K := K)) (ae_int) (ae_call (K := K) (g := ⟨w, mg⟩) c_law_draw hr hgd (aa_cons (ae_v 0) (aa_cons (ae_int) (aa_nil))))) rfl (.inl rfl))
      (ass_cons (as_setLcM 5 [("_law_k", 4)] sc_law_tongue.nd (ai_range1 m_range (aa_cons (ae_v 3) (aa_nil))) (sw_true rfl rfl rfl (by decide +kernel)) (blkOk_by (own := [("_law_k", 4)]) (N := ["_law_pen_here", "_law_most", "_law_signs", "_law_amount", "_law_k", "_law_sizes", "_law_kinds", "_law_size", "_law_kind", "_law_at"]) (sc := defScope st_law_tongue) (by decide +kernel)) (fun _ _ _ _ _ => ag_name 4 (vs := [4]) sc_law_tongue.nd rfl (.inl rfl)) (fun _ _ _ _ _ => ats_nil) (fun _ _ _ _ _ => ae_op (ao_add (K := K)) (ae_int) (ae_call (K := K) (g := ⟨w, mg⟩) c_law_draw hr hgd (aa_cons (ae_v 0) (aa_cons (ae_v 1) (aa_nil))))))
      (ass_cons (as_if (aw_t (aw_and (at_cmp (ao_eq (K := K) hr.units) (ae_v 1) (ae_int)) (aw_and1 (at_cmp (ao_eq (K := K) hr.units) (ae_call (K := K) (g := ⟨w, mg⟩) c_law_draw hr hgd (aa_cons (ae_v 0) (aa_cons (ae_int) (aa_nil)))) (ae_int)))))
      (ass_one (as_set 5 sc_law_tongue.nd (ae_ix (K := K) (ae_lst (aa_cons (ae_lst (aa_cons (ae_int) (aa_cons (ae_int) (aa_nil)))) (aa_cons (ae_lst (aa_cons (ae_int) (aa_cons (ae_int) (aa_cons (ae_int) (aa_nil))))) (aa_cons (ae_lst (aa_cons (ae_int) (aa_cons (ae_int) (aa_cons (ae_int) (aa_cons (ae_int) (aa_nil)))))) (aa_cons (ae_lst (aa_cons (ae_int) (aa_cons (ae_int) (aa_cons (ae_int) (aa_nil))))) (aa_nil)))))) (ae_call (K := K) (g := ⟨w, mg⟩) c_law_draw hr hgd (aa_cons (ae_v 0) (aa_cons (ae_int) (aa_nil))))) rfl (.inl rfl)))
      (ass_nil))
      (ass_cons (as_while (at_cmp ao_gt (ae_callB (ac_sum (K := K)) m_sum (by decide +kernel) (aa_cons (ae_v 5) (aa_nil))) (ae_int))
      (ass_one (as_setL (ae_op ao_sub (ae_callB (ac_maxL (K := K)) m_max (by decide +kernel) (aa_cons (ae_v 5) (aa_nil))) (ae_int)) (ae_v 5) (ae_meth (K := K) PySem.F.plainAttrs_list PySem.F.slot_list_index PySem.F.type_list_index (am_lindex (K := K)) (ae_v 5) (aa_cons (ae_callB (ac_maxL (K := K)) m_max (by decide +kernel) (aa_cons (ae_v 5) (aa_nil))) (aa_nil))))))
      (ass_frzO 5 (ass_cons (as_set 6 sc_law_tongue.nd (ae_lstM (aa_nil)) rfl (.inl rfl))
      (ass_cons (as_for (ai_list (K := K) (ae_v 5)) (ag_name 7 (vs := [7]) sc_law_tongue.nd rfl (.inl rfl))
      (ass_cons (as_set 8 sc_law_tongue.nd (ae_str) rfl (.inl rfl))
      (ass_cons (as_for (ai_range1 m_range (aa_cons (ae_v 7) (aa_nil))) (ag_name 4 (vs := [4]) sc_law_tongue.nd rfl (.inl rfl))
      (ass_cons (as_set 9 sc_law_tongue.nd (ae_call (K := K) (g := ⟨w, mg⟩) c_law_draw hr hgd (aa_cons (ae_v 0) (aa_cons (ae_callB (ac_len (K := K)) m_len (by decide +kernel) (aa_cons (ae_v 2) (aa_nil))) (aa_nil)))) rfl (.inl rfl))
      (ass_cons (as_set 8 sc_law_tongue.nd (ae_op (ao_add (K := K)) (ae_v 8) (ae_ix (K := K) (ae_v 2) (ae_v 9))) rfl (.inl rfl))
      (ass_one (as_set 2 sc_law_tongue.nd (ae_op (ao_add (K := K)) (ae_cut (K := K) (ae_v 2) ao_none (ao_some (ae_v 9))) (ae_cut (K := K) (ae_v 2) (ao_some (ae_op (ao_add (K := K)) (ae_v 9) (ae_int))) ao_none)) rfl (.inl rfl))))))
      (ass_one (as_expr (ae_meth (K := K) PySem.F.plainAttrs_list PySem.F.slot_list_append PySem.F.type_list_append am_append (ae_v 6) (aa_cons (ae_v 8) (aa_nil))))))))
      (ass_frz 6 (ass_one (as_ret (ae_callT (ac_tuple (K := K)) m_tuple (by decide +kernel) (aa_cons (ae_v 6) (aa_nil)))))))))))))⟩
abbrev st_law_text : Stmt := topS 35
theorem sc_law_text : FnScope ["_law_pen_here", "_law_tongue_here", "_law_most", "_law_signs", "_law_word", "_law_alike", "_law_k", "_law_sign"] ["_law_pen_here", "_law_tongue_here", "_law_most"] (defScope st_law_text) := ⟨rfl, rfl, rfl, by decide +kernel, rfl, by decide +kernel, by decide +kernel⟩
theorem ok_law_text {P : Program} {w : World} {K : PySem.W.Frag} {mg : Str → Option Value} {base : Heap} {f : Addr} {fd : FuncData} (F : L2.Fun K "_law_text" "_law_text" st_law_text f fd) (hm : mg "_law_text" = some (.ref f)) (hb : Binds K fd ["_law_pen_here", "_law_tongue_here", "_law_most"] []) (m_len : mg "len" = none) (m_range : mg "range" = none) (c_law_draw : Cal P w K mg base 1 "_law_draw" 2 s_law_draw) : Cal P w K mg base 2 "_law_text" 3 s_law_text := by
  refine calA (b := a_law_text) F sc_law_text rfl hm hb ?_ (fun _ _ _ _ h => h)
  intro cdv A outer s H E hr hgd
  have hw : (Bs.nil ⟨w, mg⟩).g = ⟨w, mg⟩ := rfl
  exact ⟨_, ass_cons (as_set 3 sc_law_text.nd (ae_meth (K := K) PySem.F.plainAttrs_str PySem.F.slot_str_join PySem.F.type_str_join (am_join (K := K)) (ae_str) (aa_cons (ae_v 1) (aa_nil))) rfl (.inl rfl))
      (ass_cons (as_set 4 sc_law_text.nd (ae_ix (K := K) (ae_v 3) (ae_call (K := K) (g := ⟨w, mg⟩) c_law_draw hr hgd (aa_cons (ae_v 0) (aa_cons (ae_callB (ac_len (K := K)) m_len (by decide +kernel) (aa_cons (ae_v 3) (aa_nil))) (aa_nil))))) rfl (.inl rfl))
      (ass_cons (as_set 5 sc_law_text.nd (ae_cmp (ao_eq (K := K) hr.units) (ae_call (K := K) (g := ⟨w, mg⟩) c_law_draw hr hgd (aa_cons (ae_v 0) (aa_cons (ae_int) (aa_nil)))) (ae_int)) rfl (.inl rfl))
      (ass_cons (as_for (ai_range1 m_range (aa_cons (ae_call (K := K) (g := ⟨w, mg⟩) c_law_draw hr hgd (aa_cons (ae_v 0) (aa_cons (ae_v 2) (aa_nil)))) (aa_nil))) (ag_name 6 (vs := [6]) sc_law_text.nd rfl (.inl rfl))
      (ass_cons (as_set 7 sc_law_text.nd (ae_ix (K := K) (ae_v 3) (ae_call (K := K) (g := ⟨w, mg⟩) c_law_draw hr hgd (aa_cons (ae_v 0) (aa_cons (ae_callB (ac_len (K := K)) m_len (by decide +kernel) (aa_cons (ae_v 3) (aa_nil))) (aa_nil))))) rfl (.inl rfl))
      (ass_cons (as_if (at_tru (K := K) (ae_v 5))
      (ass_one (as_set 7 sc_law_text.nd (ae_ix (K := K) (ae_v 4) (ae_int)) rfl (.inl rfl)))
      (ass_nil))
      (ass_one (as_set 4 sc_law_text.nd (ae_op (ao_add (K := K)) (ae_v 4) (ae_v 7)) rfl (.inl rfl))))))
      (ass_one (as_ret (ae_v 4))))))⟩
abbrev st_law_other : Stmt := topS 40
theorem sc_law_other : FnScope ["_law_pen_here", "_law_tongue_here", "_law_kinds", "_law_kind", "_law_mixed", "_law_sign", "_law_at"] ["_law_pen_here", "_law_tongue_here"] (defScope st_law_other) := ⟨rfl, rfl, rfl, by decide +kernel, rfl, by decide +kernel, by decide +kernel⟩
theorem ok_law_other {P : Program} {w : World} {K : PySem.W.Frag} {mg : Str → Option Value} {base : Heap} {f : Addr} {fd : FuncData} (F : L2.Fun K "_law_other" "_law_other" st_law_other f fd) (hm : mg "_law_other" = some (.ref f)) (hb : Binds K fd ["_law_pen_here", "_law_tongue_here"] []) (m_len : mg "len" = none) (m_tuple : mg "tuple" = none) (c_law_draw : Cal P w K mg base 1 "_law_draw" 2 s_law_draw) : Cal P w K mg base 2 "_law_other" 2 s_law_other := by
  refine calA (b := a_law_other) F sc_law_other rfl hm hb ?_ (fun _ _ _ _ h => h)
  intro cdv A outer s H E hr hgd
  have hw : (Bs.nil ⟨w, mg⟩).g = ⟨w, mg⟩ := rfl
  exact ⟨_, ass_cons (as_set 2 sc_law_other.nd (ae_lstM (aa_nil)) rfl (.inl rfl))
      (ass_cons (as_for (ai_tup (K := K) (ae_v 1)) (ag_name 3 (vs := [3]) sc_law_other.nd rfl (.inl rfl))
      (ass_cons (as_set 4 sc_law_other.nd (ae_str) rfl (.inl rfl))
      (ass_cons (as_for (ai_str (ae_v 3)) (ag_name 5 (vs := [5]) sc_law_other.nd rfl (.inl rfl))
      (ass_cons (as_set 6 sc_law_other.nd (ae_call (K := K) (g := ⟨w, mg⟩) c_law_draw hr hgd (aa_cons (ae_v 0) (aa_cons (ae_op (ao_add (K := K)) (ae_callB (ac_len (K := K)) m_len (by decide +kernel) (aa_cons (ae_v 4) (aa_nil))) (ae_int)) (aa_nil)))) rfl (.inl rfl))
      (ass_one (as_set 4 sc_law_other.nd (ae_op (ao_add (K := K)) (ae_op (ao_add (K := K)) (ae_cut (K := K) (ae_v 4) ao_none (ao_some (ae_v 6))) (ae_v 5)) (ae_cut (K := K) (ae_v 4) (ao_some (ae_v 6)) ao_none)) rfl (.inl rfl)))))
      (ass_one (as_expr (ae_meth (K := K) PySem.F.plainAttrs_list PySem.F.slot_list_append PySem.F.type_list_append am_append (ae_v 2) (aa_cons (ae_v 4) (aa_nil))))))))
      (ass_frz 2 (ass_one (as_ret (ae_callT (ac_tuple (K := K)) m_tuple (by decide +kernel) (aa_cons (ae_v 2) (aa_nil)))))))⟩
abbrev st_law_sentence_by : Stmt := topS 42
theorem sc_law_sentence_by : FnScope ["_law_tongue_here", "_law_other_here", "_law_sentence_here", "_law_parts", "_law_part"] ["_law_tongue_here", "_law_other_here", "_law_sentence_here"] (defScope st_law_sentence_by) := ⟨rfl, rfl, rfl, by decide +kernel, rfl, by decide +kernel, by decide +kernel⟩
theorem ok_law_sentence_by {P : Program} {w : World} {K : PySem.W.Frag} {mg : Str → Option Value} {base : Heap} {f : Addr} {fd : FuncData} (F : L2.Fun K "_law_sentence_by" "_law_sentence_by" st_law_sentence_by f fd) (hm : mg "_law_sentence_by" = some (.ref f)) (hb : Binds K fd ["_law_tongue_here", "_law_other_here", "_law_sentence_here"] []) (m_isinstance : mg "isinstance" = none) (m_str : mg "str" = none) (m_tuple : mg "tuple" = none) (c_law_by : Cal P w K mg base 1 "_law_by" 3 s_law_by) : ∀ d, Cal P w K mg base (2 + d) "_law_sentence_by" 3 (s_law_sentence_by d)
  | 0 => by
    refine calA (b := aNoS) F sc_law_sentence_by rfl hm hb ?_ (fun _ _ _ _ h => h.elim)
    intro cdv A outer s H E hr hgd
    exact ⟨_, ass_no⟩
  | d + 1 => by
    have c_law_sentence_by := ok_law_sentence_by (P := P) (w := w) (base := base) F hm hb m_isinstance m_str m_tuple c_law_by d
    refine calA (b := a_law_sentence_by (s_law_sentence_by d)) F sc_law_sentence_by rfl hm hb ?_ (fun _ _ _ _ h => h)
    intro cdv A outer s H E hr hgd
    have hw : (Bs.nil ⟨w, mg⟩).g = ⟨w, mg⟩ := rfl
    exact ⟨_, ass_cons (as_set 3 sc_law_sentence_by.nd (ae_lstM (aa_cons (ae_ix (K := K) (ae_v 2) (ae_int)) (aa_nil))) rfl (.inl rfl))
      (ass_cons (as_for (ai_tup (K := K) (ae_cut (K := K) (ae_v 2) (ao_some (ae_int)) ao_none)) (ag_name 4 (vs := [4]) sc_law_sentence_by.nd rfl (.inl rfl))
      (ass_one (as_if (at_tru (K := K) (ae_isi (K := K) (ae_v 4) m_isinstance m_str (by decide +kernel)))
      (ass_one (as_expr (ae_meth (K := K) PySem.F.plainAttrs_list PySem.F.slot_list_append PySem.F.type_list_append am_append (ae_v 3) (aa_cons (ae_call (K := K) (g := ⟨w, mg⟩) (hk := by first | exact Nat.le_refl _ | exact Nat.le_trans (by decide) (Nat.le_add_right 2 d)) c_law_by hr hgd (aa_cons (ae_v 0) (aa_cons (ae_v 1) (aa_cons (ae_v 4) (aa_nil))))) (aa_nil)))))
      (ass_one (as_if (at_tru (K := K) (ae_isi (K := K) (ae_v 4) m_isinstance m_tuple (by decide +kernel)))
      (ass_one (as_expr (ae_meth (K := K) PySem.F.plainAttrs_list PySem.F.slot_list_append PySem.F.type_list_append am_append (ae_v 3) (aa_cons (ae_call (K := K) (g := ⟨w, mg⟩) (hk := by first | exact Nat.le_refl _ | exact Nat.le_trans (by decide) (Nat.le_add_right 2 d)) c_law_sentence_by hr hgd (aa_cons (ae_v 0) (aa_cons (ae_v 1) (aa_cons (ae_v 4) (aa_nil))))) (aa_nil)))))
      (ass_one (as_expr (ae_meth (K := K) PySem.F.plainAttrs_list PySem.F.slot_list_append PySem.F.type_list_append am_append (ae_v 3) (aa_cons (ae_v 4) (aa_nil))))))))))
      (ass_frz 3 (ass_one (as_ret (ae_callT (ac_tuple (K := K)) m_tuple (by decide +kernel) (aa_cons (ae_v 3) (aa_nil)))))))⟩
abbrev st_table_of : Stmt := topS 26
theorem sc_table_of : FnScope ["tongue", "other", "good", "kind"] ["tongue", "other"] (defScope st_table_of) := ⟨rfl, rfl, rfl, by decide +kernel, rfl, by decide +kernel, by decide +kernel⟩
theorem ok_table_of {P : Program} {w : World} {K : PySem.W.Frag} {mg : Str → Option Value} {base : Heap} {f : Addr} {fd : FuncData} (F : L2.Fun K "table_of" "table_of" st_table_of f fd) (hm : mg "table_of" = some (.ref f)) (hb : Binds K fd ["tongue", "other"] []) (m_dict : mg "dict" = none) (m_len : mg "len" = none) (m_sorted : mg "sorted" = none) (m_zip : mg "zip" = none) (e_NoTongue : ExcF K mg "NoTongue") (c_signs_of : Cal P w K mg base 1 "signs_of" 1 s_signs_of) (c_is_tongue : Cal P w K mg base 2 "is_tongue" 1 s_is_tongue) : CalX P w K mg base 3 "table_of" 2 s_table_of := by
  refine calX (b := a_table_of) F sc_table_of rfl hm hb ?_ (fun _ _ _ _ _ h => h)
  intro B hw W Wk cdv A outer s H E hr hgd tk rel hp
  exact ⟨_, ass_cons (AS.nox (as_set 2 sc_table_of.nd (ae_and (K := K) (ae_call (K := K) (g := ⟨w, mg⟩) c_is_tongue hr hgd (aa_cons (ae_v 1) (aa_nil))) (ae_one (ae_cmp (ao_eq (K := K) hr.units) (ae_callB (ac_len (K := K)) m_len (by decide +kernel) (aa_cons (ae_v 1) (aa_nil))) (ae_callB (ac_len (K := K)) m_len (by decide +kernel) (aa_cons (ae_v 0) (aa_nil)))))) rfl (.inl rfl)))
      (ass_cons (as_if (AT.nox (aw_t (aw_or (at_not (at_tru (K := K) (ae_v 2))) (aw_or1 (at_cmp (ao_ne (K := K) hr.units) (ae_lc [("kind", 3)] sc_table_of.nd (ai_tup (K := K) (ae_v 0)) (blkOk_by (own := [("kind", 3)]) (N := ["tongue", "other", "good", "kind"]) (sc := defScope st_table_of) (by decide +kernel)) (fun _ _ _ _ _ => ag_name 3 (vs := [3]) sc_table_of.nd rfl (.inl rfl)) (fun _ _ _ _ _ => ats_nil) (fun _ _ _ _ _ => ae_callB ac_sortT m_sorted (by decide +kernel) (aa_cons (ae_v 3) (aa_nil)))) (ae_lc [("kind", 3)] sc_table_of.nd (ai_tup (K := K) (ae_v 1)) (blkOk_by (own := [("kind", 3)]) (N := ["tongue", "other", "good", "kind"]) (sc := defScope st_table_of) (by decide +kernel)) (fun _ _ _ _ _ => ag_name 3 (vs := [3]) sc_table_of.nd rfl (.inl rfl)) (fun _ _ _ _ _ => ats_nil) (fun _ _ _ _ _ => ae_callB ac_sortT m_sorted (by decide +kernel) (aa_cons (ae_v 3) (aa_nil)))))))))
      (ass_one (as_raise e_NoTongue tk rel))
      (ass_nil))
      (ass_one (AS.nox (as_ret (ae_dictZ m_dict m_zip (aa_cons (ae_call (K := K) (g := ⟨w, mg⟩) c_signs_of hr hgd (aa_cons (ae_v 0) (aa_nil))) (aa_cons (ae_call (K := K) (g := ⟨w, mg⟩) c_signs_of hr hgd (aa_cons (ae_v 1) (aa_nil))) (aa_nil))))))))⟩
abbrev st_law_plain : Stmt := topS 36
theorem sc_law_plain : FnScope ["_law_pen_here", "_law_tongue_here", "_law_signs", "_law_way", "_law_low", "_law_high", "_law_at", "_law_some"] ["_law_pen_here", "_law_tongue_here"] (defScope st_law_plain) := ⟨rfl, rfl, rfl, by decide +kernel, rfl, by decide +kernel, by decide +kernel⟩
theorem ok_law_plain {P : Program} {w : World} {K : PySem.W.Frag} {mg : Str → Option Value} {base : Heap} {f : Addr} {fd : FuncData} (F : L2.Fun K "_law_plain" "_law_plain" st_law_plain f fd) (hm : mg "_law_plain" = some (.ref f)) (hb : Binds K fd ["_law_pen_here", "_law_tongue_here"] []) (m_len : mg "len" = none) (c_law_draw : Cal P w K mg base 1 "_law_draw" 2 s_law_draw) (c_law_text : Cal P w K mg base 2 "_law_text" 3 s_law_text) : Cal P w K mg base 3 "_law_plain" 2 s_law_plain := by
  refine calA (b := a_law_plain) F sc_law_plain rfl hm hb ?_ (fun _ _ _ _ h => h)
  intro cdv A outer s H E hr hgd
  have hw : (Bs.nil ⟨w, mg⟩).g = ⟨w, mg⟩ := rfl
  exact ⟨_, ass_cons (as_set 2 sc_law_plain.nd (ae_meth (K := K) PySem.F.plainAttrs_str PySem.F.slot_str_join PySem.F.type_str_join (am_join (K := K)) (ae_str) (aa_cons (ae_v 1) (aa_nil))) rfl (.inl rfl))
      (ass_cons (as_set 3 sc_law_plain.nd (ae_call (K := K) (g := ⟨w, mg⟩) c_law_draw hr hgd (aa_cons (ae_v 0) (aa_cons (ae_int) (aa_nil)))) rfl (.inl rfl))
      (ass_cons (as_if (at_cmp ao_lt (ae_v 3) (ae_int))
      (ass_cons (as_set 4 sc_law_plain.nd (ae_call (K := K) (g := ⟨w, mg⟩) c_law_draw hr hgd (aa_cons (ae_v 0) (aa_cons (ae_int) (aa_nil)))) rfl (.inl rfl))
      (ass_cons (as_set 5 sc_law_plain.nd (ae_op (ao_add (K := K)) (ae_v 4) (ae_call (K := K) (g := ⟨w, mg⟩) c_law_draw hr hgd (aa_cons (ae_v 0) (aa_cons (ae_int) (aa_nil))))) rfl (.inl rfl))
      (ass_cons (as_if (at_cmp (ao_eq (K := K) hr.units) (ae_call (K := K) (g := ⟨w, mg⟩) c_law_draw hr hgd (aa_cons (ae_v 0) (aa_cons (ae_int) (aa_nil)))) (ae_int))
      (ass_one (as_set 5 sc_law_plain.nd (ae_non) rfl (.inl rfl)))
      (ass_nil))
      (ass_one (as_ret (ae_tup (aa_cons (ae_str) (aa_cons (ae_v 4) (aa_cons (ae_v 5) (aa_nil))))))))))
      (ass_nil))
      (ass_cons (as_if (at_cmp (ao_eq (K := K) hr.units) (ae_v 3) (ae_int))
      (ass_one (as_ret (ae_tup (aa_cons (ae_str) (aa_cons (ae_call (K := K) (g := ⟨w, mg⟩) c_law_draw hr hgd (aa_cons (ae_v 0) (aa_cons (ae_callB (ac_len (K := K)) m_len (by decide +kernel) (aa_cons (ae_v 1) (aa_nil))) (aa_nil)))) (aa_cons (ae_call (K := K) (g := ⟨w, mg⟩) c_law_draw hr hgd (aa_cons (ae_v 0) (aa_cons (ae_int) (aa_nil)))) (aa_nil)))))))
      (ass_nil))
      (ass_cons (as_if (at_cmp (ao_eq (K := K) hr.units) (ae_v 3) (ae_int))
      (ass_cons (as_set 6 sc_law_plain.nd (ae_call (K := K) (g := ⟨w, mg⟩) c_law_draw hr hgd (aa_cons (ae_v 0) (aa_cons (ae_callB (ac_len (K := K)) m_len (by decide +kernel) (aa_cons (ae_v 2) (aa_nil))) (aa_nil)))) rfl (.inl rfl))
      (ass_cons (as_set 7 sc_law_plain.nd (ae_op (ao_add (K := K)) (ae_ix (K := K) (ae_v 2) (ae_v 6)) (ae_cut (K := K) (ae_v 2) (ao_some (ae_op (ao_add (K := K)) (ae_v 6) (ae_int))) (ao_some (ae_op (ao_add (K := K)) (ae_op (ao_add (K := K)) (ae_v 6) (ae_int)) (ae_call (K := K) (g := ⟨w, mg⟩) c_law_draw hr hgd (aa_cons (ae_v 0) (aa_cons (ae_int) (aa_nil)))))))) rfl (.inl rfl))
      (ass_one (as_ret (ae_tup (aa_cons (ae_str) (aa_cons (ae_v 7) (aa_cons (ae_call (K := K) (g := ⟨w, mg⟩) c_law_draw hr hgd (aa_cons (ae_v 0) (aa_cons (ae_int) (aa_nil)))) (aa_nil)))))))))
      (ass_nil))
      (ass_cons (as_if (at_cmp (ao_eq (K := K) hr.units) (ae_v 3) (ae_int))
      (ass_one (as_ret (ae_tup (aa_cons (ae_str) (aa_nil)))))
      (ass_nil))
      (ass_one (as_ret (ae_tup (aa_cons (ae_ix (K := K) (ae_lst (aa_cons (ae_str) (aa_cons (ae_str) (aa_cons (ae_str) (aa_nil))))) (ae_op ao_sub (ae_v 3) (ae_int))) (aa_cons (ae_call (K := K) (g := ⟨w, mg⟩) c_law_text hr hgd (aa_cons (ae_v 0) (aa_cons (ae_v 1) (aa_cons (ae_int) (aa_nil))))) (aa_nil)))))))))))⟩
abbrev st_exchanged_word : Stmt := topS 29
theorem sc_exchanged_word : FnScope ["tongue", "other", "word"] ["tongue", "other", "word"] (defScope st_exchanged_word) := ⟨rfl, rfl, rfl, by decide +kernel, rfl, by decide +kernel, by decide +kernel⟩
theorem ok_exchanged_word {P : Program} {w : World} {K : PySem.W.Frag} {mg : Str → Option Value} {base : Heap} {f : Addr} {fd : FuncData} (F : L2.Fun K "exchanged_word" "exchanged_word" st_exchanged_word f fd) (hm : mg "exchanged_word" = some (.ref f)) (hb : Binds K fd ["tongue", "other", "word"] []) (c_text_by : Cal P w K mg base 1 "text_by" 2 s_text_by) (c_table_of : CalX P w K mg base 3 "table_of" 2 s_table_of) : CalX P w K mg base 4 "exchanged_word" 3 s_exchanged_word := by
  refine calX (b := a_exchanged_word) F sc_exchanged_word rfl hm hb ?_ (fun _ _ _ _ _ h => h)
  intro B hw W Wk cdv A outer s H E hr hgd tk rel hp
  exact ⟨_, ass_one (as_ret (ae_call (K := K) (g := ⟨w, mg⟩) c_text_by hr hgd (aa_cons (ae_callX (g := ⟨w, mg⟩) c_table_of hr hgd tk rel (aa_cons (ae_v 0) (aa_cons (ae_v 1) (aa_nil)))) (aa_cons (ae_v 2) (aa_nil)))))⟩
abbrev st_law_sentence : Stmt := topS 37
theorem sc_law_sentence : FnScope ["_law_pen_here", "_law_tongue_here", "_law_deep", "_law_way", "_law_first"] ["_law_pen_here", "_law_tongue_here", "_law_deep"] (defScope st_law_sentence) := ⟨rfl, rfl, rfl, by decide +kernel, rfl, by decide +kernel, by decide +kernel⟩
theorem ok_law_sentence {P : Program} {w : World} {K : PySem.W.Frag} {mg : Str → Option Value} {base : Heap} {f : Addr} {fd : FuncData} (F : L2.Fun K "_law_sentence" "_law_sentence" st_law_sentence f fd) (hm : mg "_law_sentence" = some (.ref f)) (hb : Binds K fd ["_law_pen_here", "_law_tongue_here", "_law_deep"] []) (c_law_draw : Cal P w K mg base 1 "_law_draw" 2 s_law_draw) (c_law_plain : Cal P w K mg base 3 "_law_plain" 2 s_law_plain) : ∀ d, Cal P w K mg base (4 + d) "_law_sentence" 3 (s_law_sentence d)
  | 0 => by
    refine calA (b := aNoS) F sc_law_sentence rfl hm hb ?_ (fun _ _ _ _ h => h.elim)
    intro cdv A outer s H E hr hgd
    exact ⟨_, ass_no⟩
  | d + 1 => by
    have c_law_sentence := ok_law_sentence (P := P) (w := w) (base := base) F hm hb c_law_draw c_law_plain d
    refine calA (b := a_law_sentence (s_law_sentence d)) F sc_law_sentence rfl hm hb ?_ (fun _ _ _ _ h => h)
    intro cdv A outer s H E hr hgd
    have hw : (Bs.nil ⟨w, mg⟩).g = ⟨w, mg⟩ := rfl
    exact ⟨_, ass_cons (as_set 3 sc_law_sentence.nd (ae_int) rfl (.inl rfl))
      (ass_cons (as_if (at_cmp ao_gt (ae_v 2) (ae_int))
      (ass_one (as_set 3 sc_law_sentence.nd (ae_call (K := K) (g := ⟨w, mg⟩) (hk := by first | exact Nat.le_refl _ | exact Nat.le_trans (by decide) (Nat.le_add_right 4 d)) c_law_draw hr hgd (aa_cons (ae_v 0) (aa_cons (ae_int) (aa_nil)))) rfl (.inl rfl)))
      (ass_nil))
      (ass_cons (as_if (at_cmp (ao_eq (K := K) hr.units) (ae_v 3) (ae_int))
      (ass_one (as_ret (ae_tup (aa_cons (ae_str) (aa_cons (ae_call (K := K) (g := ⟨w, mg⟩) (hk := by first | exact Nat.le_refl _ | exact Nat.le_trans (by decide) (Nat.le_add_right 4 d)) c_law_sentence hr hgd (aa_cons (ae_v 0) (aa_cons (ae_v 1) (aa_cons (ae_op ao_sub (ae_v 2) (ae_int)) (aa_nil))))) (aa_nil))))))
      (ass_nil))
      (ass_cons (as_if (at_cmp ao_gt (ae_v 3) (ae_int))
      (ass_cons (as_set 4 sc_law_sentence.nd (ae_call (K := K) (g := ⟨w, mg⟩) (hk := by first | exact Nat.le_refl _ | exact Nat.le_trans (by decide) (Nat.le_add_right 4 d)) c_law_sentence hr hgd (aa_cons (ae_v 0) (aa_cons (ae_v 1) (aa_cons (ae_op ao_sub (ae_v 2) (ae_int)) (aa_nil))))) rfl (.inl rfl))
      (ass_one (as_ret (ae_tup (aa_cons (ae_ix (K := K) (ae_lst (aa_cons (ae_str) (aa_cons (ae_str) (aa_nil)))) (ae_op ao_sub (ae_v 3) (ae_int))) (aa_cons (ae_v 4) (aa_cons (ae_call (K := K) (g := ⟨w, mg⟩) (hk := by first | exact Nat.le_refl _ | exact Nat.le_trans (by decide) (Nat.le_add_right 4 d)) c_law_sentence hr hgd (aa_cons (ae_v 0) (aa_cons (ae_v 1) (aa_cons (ae_op ao_sub (ae_v 2) (ae_int)) (aa_nil))))) (aa_nil))))))))
      (ass_nil))
      (ass_one (as_ret (ae_call (K := K) (g := ⟨w, mg⟩) (hk := by first | exact Nat.le_refl _ | exact Nat.le_trans (by decide) (Nat.le_add_right 4 d)) c_law_plain hr hgd (aa_cons (ae_v 0) (aa_cons (ae_v 1) (aa_nil)))))))))⟩
abbrev st_exchanged_rule : Stmt := topS 30
theorem sc_exchanged_rule : FnScope ["rule", "other", "table", "sentence"] ["rule", "other"] (defScope st_exchanged_rule) := ⟨rfl, rfl, rfl, by decide +kernel, rfl, by decide +kernel, by decide +kernel⟩
theorem ok_exchanged_rule {P : Program} {w : World} {K : PySem.W.Frag} {mg : Str → Option Value} {base : Heap} {f : Addr} {fd : FuncData} (F : L2.Fun K "exchanged_rule" "exchanged_rule" st_exchanged_rule f fd) (hm : mg "exchanged_rule" = some (.ref f)) (hb : Binds K fd ["rule", "other"] []) (m_tuple : mg "tuple" = none) (c_sentence_by : Cal P w K mg base 10 "sentence_by" 2 (s_sentence_by 8)) (c_table_of : CalX P w K mg base 3 "table_of" 2 s_table_of) : CalX P w K mg base 11 "exchanged_rule" 2 s_exchanged_rule := by
  refine calX (b := a_exchanged_rule) F sc_exchanged_rule rfl hm hb ?_ (fun _ _ _ _ _ h => h)
  intro B hw W Wk cdv A outer s H E hr hgd tk rel hp
  exact ⟨_, ass_cons (as_set 2 sc_exchanged_rule.nd (ae_callX (g := ⟨w, mg⟩) c_table_of hr hgd tk rel (aa_cons (ae_ix (K := K) (ae_v 0) (ae_int)) (aa_cons (ae_v 1) (aa_nil)))) rfl (.inr rfl))
      (ass_one (AS.nox (as_ret (ae_tup (aa_cons (ae_ix (K := K) (ae_v 0) (ae_int)) (aa_cons (ae_callT (ac_tuple (K := K)) m_tuple (by decide +kernel) (aa_cons (ae_lc [("sentence", 3)] sc_exchanged_rule.nd (ai_tup (K := K) (ae_ix (K := K) (ae_v 0) (ae_int))) (blkOk_by (own := [("sentence", 3)]) (N := ["rule", "other", "table", "sentence"]) (sc := defScope st_exchanged_rule) (by decide +kernel)) (fun _ _ _ _ _ => ag_name 3 (vs := [3]) sc_exchanged_rule.nd rfl (.inl rfl)) (fun _ _ _ _ _ => ats_nil) (fun _ _ _ _ _ => ae_call (K := K) (g := ⟨w, mg⟩) c_sentence_by hr hgd (aa_cons (ae_v 2) (aa_cons (ae_v 3) (aa_nil))))) (aa_nil))) (aa_nil)))))))⟩
abbrev st_law_heard : Stmt := topS 44
theorem sc_law_heard : FnScope ["_law_tongue_here", "_law_thing", "_law_word", "_law_rule_here", "_law_told", "_law_way", "_law_caught", "_law_e"] ["_law_tongue_here", "_law_thing", "_law_word", "_law_rule_here"] (defScope st_law_heard) := ⟨rfl, rfl, rfl, by decide +kernel, rfl, by decide +kernel, by decide +kernel⟩
theorem ok_law_heard {P : Program} {w : World} {K : PySem.W.Frag} {mg : Str → Option Value} {base : Heap} {f : Addr} {fd : FuncData} (F : L2.Fun K "_law_heard" "_law_heard" st_law_heard f fd) (hm : mg "_law_heard" = some (.ref f)) (hb : Binds K fd ["_law_tongue_here", "_law_thing", "_law_word", "_law_rule_here"] []) (m_range : mg "range" = none) {C_WordError : Value} (h_WordError : mg "WordError" = some C_WordError) (sf : SubF K mg subE) (c_law_mark : Cal P w K mg base 1 "_law_mark" 1 s_law_mark) (c_exchanged_word : CalX P w K mg base 4 "exchanged_word" 3 s_exchanged_word) (c_exchanged_rule : CalX P w K mg base 11 "exchanged_rule" 2 s_exchanged_rule) : Cal P w K mg base 12 "_law_heard" 4 s_law_heard := by
  refine calA (b := a_law_heard) F sc_law_heard rfl hm hb ?_ (fun _ _ _ _ h => h)
  intro cdv A outer s H E hr hgd
  have hw : (Bs.nil ⟨w, mg⟩).g = ⟨w, mg⟩ := rfl
  exact ⟨_, ass_cons (as_set 4 sc_law_heard.nd (ae_lstM (aa_nil)) rfl (.inl rfl))
      (ass_cons (as_for (ai_range1 m_range (aa_cons (ae_int) (aa_nil))) (ag_name 5 (vs := [5]) sc_law_heard.nd rfl (.inl rfl))
      (ass_cons (as_set 6 sc_law_heard.nd (ae_non) rfl (.inl rfl))
      (ass_cons (as_tryA (sub := subE) sc_law_heard.nd rfl rfl takes_no wr_no sf hw (fun B' hw W Wk pn xe tk rel hp => ass_one (as_if (AT.nox (at_cmp (ao_eq (K := K) hr.units) (ae_v 5) (ae_int)))
      (ass_one (as_expr (ae_callX (g := ⟨w, mg⟩) c_exchanged_word hr hgd tk rel (aa_cons (ae_v 0) (aa_cons (ae_v 1) (aa_cons (ae_v 2) (aa_nil)))))))
      (ass_one (as_expr (ae_callX (g := ⟨w, mg⟩) c_exchanged_rule hr hgd tk rel (aa_cons (ae_v 3) (aa_cons (ae_v 1) (aa_nil)))))))) (.cons h_WordError rfl (by decide) rfl rfl (fun B' hw a pn => ass_one (as_set 6 sc_law_heard.nd (ae_v 7) rfl (.inl rfl))) (.nil)))
      (ass_one (as_expr (ae_meth (K := K) PySem.F.plainAttrs_list PySem.F.slot_list_append PySem.F.type_list_append am_append (ae_v 4) (aa_cons (ae_and (K := K) (ae_cmp ao_isnot (ae_v 6) (ae_non)) (ae_one (ae_cmp (ao_eq (K := K) hr.units) (ae_call (K := K) (g := ⟨w, mg⟩) c_law_mark hr hgd (aa_cons (ae_v 6) (aa_nil))) (ae_int)))) (aa_nil))))))))
      (ass_frz 4 (ass_one (as_ret (ae_cmp (ao_eq (K := K) hr.units) (ae_v 4) (ae_lst (aa_cons (ae_bl) (aa_cons (ae_bl) (aa_nil)))))))))⟩
abbrev st_law_rule : Stmt := topS 39
theorem sc_law_rule : FnScope ["_law_pen_here", "_law_tongue_here", "_law_most", "_law_some", "_law_total", "_law_k", "_law_sentence_here"] ["_law_pen_here", "_law_tongue_here", "_law_most"] (defScope st_law_rule) := ⟨rfl, rfl, rfl, by decide +kernel, rfl, by decide +kernel, by decide +kernel⟩
theorem ok_law_rule {P : Program} {w : World} {K : PySem.W.Frag} {mg : Str → Option Value} {base : Heap} {f : Addr} {fd : FuncData} (F : L2.Fun K "_law_rule" "_law_rule" st_law_rule f fd) (hm : mg "_law_rule" = some (.ref f)) (hb : Binds K fd ["_law_pen_here", "_law_tongue_here", "_law_most"] []) (m_range : mg "range" = none) (m_tuple : mg "tuple" = none) (c_law_draw : Cal P w K mg base 1 "_law_draw" 2 s_law_draw) (c_law_weight : Cal P w K mg base 9 "_law_weight" 2 (s_law_weight 8)) (c_law_sentence : Cal P w K mg base 12 "_law_sentence" 3 (s_law_sentence 8)) : Cal P w K mg base 13 "_law_rule" 3 s_law_rule := by
  refine calA (b := a_law_rule) F sc_law_rule rfl hm hb ?_ (fun _ _ _ _ h => h)
  intro cdv A outer s H E hr hgd
  have hw : (Bs.nil ⟨w, mg⟩).g = ⟨w, mg⟩ := rfl
  exact ⟨_, ass_cons (as_set 3 sc_law_rule.nd (ae_lstM (aa_nil)) rfl (.inl rfl))
      (ass_cons (as_set 4 sc_law_rule.nd (ae_int) rfl (.inl rfl))
      (ass_cons (as_for (ai_range1 m_range (aa_cons (ae_call (K := K) (g := ⟨w, mg⟩) c_law_draw hr hgd (aa_cons (ae_v 0) (aa_cons (ae_int) (aa_nil)))) (aa_nil))) (ag_name 5 (vs := [5]) sc_law_rule.nd rfl (.inl rfl))
      (ass_cons (as_set 6 sc_law_rule.nd (ae_call (K := K) (g := ⟨w, mg⟩) c_law_sentence hr hgd (aa_cons (ae_v 0) (aa_cons (ae_v 1) (aa_cons (ae_int) (aa_nil))))) rfl (.inl rfl))
      (ass_one (as_if (at_cmp ao_le (ae_op ao_mul (ae_v 4) (ae_call (K := K) (g := ⟨w, mg⟩) c_law_weight hr hgd (aa_cons (ae_v 1) (aa_cons (ae_v 6) (aa_nil))))) (ae_v 2))
      (ass_cons (as_set 4 sc_law_rule.nd (ae_op ao_mul (ae_v 4) (ae_call (K := K) (g := ⟨w, mg⟩) c_law_weight hr hgd (aa_cons (ae_v 1) (aa_cons (ae_v 6) (aa_nil))))) rfl (.inl rfl))
      (ass_one (as_expr (ae_meth (K := K) PySem.F.plainAttrs_list PySem.F.slot_list_append PySem.F.type_list_append am_append (ae_v 3) (aa_cons (ae_v 6) (aa_nil))))))
      (ass_nil)))))
      (ass_frz 3 (ass_one (as_ret (ae_tup (aa_cons (ae_v 1) (aa_cons (ae_callT (ac_tuple (K := K)) m_tuple (by decide +kernel) (aa_cons (ae_v 3) (aa_nil))) (aa_nil)))))))))⟩
abbrev st_law : Stmt := topS 46
theorem sc_law : FnScope ["_law_script", "_law_k", "_law_pen_here", "_law_tongue_here", "_law_other_here", "_law_rule_here", "_law_some", "_law_deep", "_law_word", "_law_turn", "_law_told", "_law_due", "_law_sentence_here"] ["_law_script"] (defScope st_law) := ⟨rfl, rfl, rfl, by decide +kernel, rfl, by decide +kernel, by decide +kernel⟩
theorem okF_law {P : Program} {w : World} {K : PySem.W.Frag} {mg : Str → Option Value} {base : Heap} {f : Addr} {fd : FuncData} (F : L2.Fun K "law" "law" st_law f fd) (m_isinstance : mg "isinstance" = none) (m_len : mg "len" = none) (m_range : mg "range" = none) (m_str : mg "str" = none) (m_tuple : mg "tuple" = none) (c_law_pen : Cal P w K mg base 1 "_law_pen" 2 s_law_pen) (c_law_draw : Cal P w K mg base 1 "_law_draw" 2 s_law_draw) (c_law_by : Cal P w K mg base 1 "_law_by" 3 s_law_by) (c_law_no_tongues : Cal P w K mg base 1 "_law_no_tongues" 2 s_law_no_tongues) (c_law_tongue : Cal P w K mg base 2 "_law_tongue" 2 s_law_tongue) (c_law_text : Cal P w K mg base 2 "_law_text" 3 s_law_text) (c_law_other : Cal P w K mg base 2 "_law_other" 2 s_law_other) (c_law_sentence_by : Cal P w K mg base 10 "_law_sentence_by" 3 (s_law_sentence_by 8)) (c_exchanged_word : CalX P w K mg base 4 "exchanged_word" 3 s_exchanged_word) (c_exchanged_rule : CalX P w K mg base 11 "exchanged_rule" 2 s_exchanged_rule) (c_law_heard : Cal P w K mg base 12 "_law_heard" 4 s_law_heard) (c_law_rule : Cal P w K mg base 13 "_law_rule" 3 s_law_rule) : FnG P w K mg base 14 f fd ["_law_script"] (spOf ⟨w, mg⟩ K 1 s_law) := by
  refine fnA (b := a_law) F sc_law ?_ (fun _ _ _ _ h => h)
  intro cdv A outer s H E hr hgd
  have hw : (Bs.nil ⟨w, mg⟩).g = ⟨w, mg⟩ := rfl
  have tk : Takes (cxOf (L2.CX P w) P w K mg base ["_law_script", "_law_k", "_law_pen_here", "_law_tongue_here", "_law_other_here", "_law_rule_here", "_law_some", "_law_deep", "_law_word", "_law_turn", "_law_told", "_law_due", "_law_sentence_here"] "law" (defScope st_law) f cdv A outer s H E).nox (fun _ _ _ _ => False) := takes_no
  have rel : WR (Bs.nil ⟨w, mg⟩) K mg (fun _ _ _ => False) (fun _ _ _ _ => False) := wr_no
  unfold a_law a_lawW
  exact ⟨_, ass_cons (as_for (ai_range1 m_range (aa_cons (ae_int) (aa_nil))) (ag_name 1 (vs := [1]) sc_law.nd rfl (.inl rfl))
      (ass_cons (AS.nox (as_set 2 sc_law.nd (ae_call (K := K) (g := ⟨w, mg⟩) c_law_pen hr hgd (aa_cons (ae_v 0) (aa_cons (ae_v 1) (aa_nil)))) rfl (.inl rfl)))
      (ass_cons (AS.nox (as_set 3 sc_law.nd (ae_call (K := K) (g := ⟨w, mg⟩) c_law_tongue hr hgd (aa_cons (ae_v 2) (aa_cons (ae_int) (aa_nil)))) rfl (.inr rfl)))
      (ass_cons (AS.nox (as_set 4 sc_law.nd (ae_call (K := K) (g := ⟨w, mg⟩) c_law_other hr hgd (aa_cons (ae_v 2) (aa_cons (ae_v 3) (aa_nil)))) rfl (.inr rfl)))
      (ass_cons (AS.nox (as_set 5 sc_law.nd (ae_call (K := K) (g := ⟨w, mg⟩) c_law_rule hr hgd (aa_cons (ae_v 2) (aa_cons (ae_v 3) (aa_cons (ae_op ao_pow (ae_int) (ae_int)) (aa_nil))))) rfl (.inl rfl)))
      (ass_cons (AS.nox (as_set 6 sc_law.nd (ae_or (K := K) (ae_cut (K := K) (ae_cut (K := K) (ae_meth (K := K) PySem.F.plainAttrs_str PySem.F.slot_str_join PySem.F.type_str_join (am_join (K := K)) (ae_str) (aa_cons (ae_v 3) (aa_nil))) (ao_some (ae_call (K := K) (g := ⟨w, mg⟩) c_law_draw hr hgd (aa_cons (ae_v 2) (aa_cons (ae_int) (aa_nil))))) ao_none) ao_none (ao_some (ae_op (ao_add (K := K)) (ae_int) (ae_call (K := K) (g := ⟨w, mg⟩) c_law_draw hr hgd (aa_cons (ae_v 2) (aa_cons (ae_int) (aa_nil))))))) (ae_one (ae_ix (K := K) (ae_ix (K := K) (ae_v 3) (ae_int)) (ae_int)))) rfl (.inl rfl)))
      (ass_cons (AS.nox (as_set 7 sc_law.nd (ae_tup (aa_cons (ae_str) (aa_cons (ae_tup (aa_cons (ae_str) (aa_cons (ae_tup (aa_cons (ae_str) (aa_cons (ae_tup (aa_cons (ae_str) (aa_cons (ae_v 6) (aa_nil)))) (aa_nil)))) (aa_nil)))) (aa_cons (ae_tup (aa_cons (ae_str) (aa_cons (ae_tup (aa_cons (ae_str) (aa_cons (ae_v 6) (aa_cons (ae_int) (aa_nil))))) (aa_cons (ae_tup (aa_cons (ae_str) (aa_cons (ae_revS (ae_v 6)) (aa_nil)))) (aa_nil))))) (aa_nil))))) rfl (.inl rfl)))
      (ass_cons (AS.nox (as_set 5 sc_law.nd (ae_tup (aa_cons (ae_v 3) (aa_cons (ae_op (ao_add (K := K)) (ae_ix (K := K) (ae_v 5) (ae_int)) (ae_tup (aa_cons (ae_v 7) (aa_cons (ae_tup (aa_cons (ae_str) (aa_cons (ae_revS (ae_v 6)) (aa_cons (ae_int) (aa_nil))))) (aa_nil))))) (aa_nil)))) rfl (.inl rfl)))
      (ass_cons (AS.nox (as_set 8 sc_law.nd (ae_str) rfl (.inl rfl)))
      (ass_cons (as_for (ai_range1 m_range (aa_cons (ae_int) (aa_nil))) (ag_name 9 (vs := [9]) sc_law.nd rfl (.inl rfl))
      (ass_cons (as_set 10 sc_law.nd (ae_callX (g := ⟨w, mg⟩) c_exchanged_word hr hgd tk rel (aa_cons (ae_v 3) (aa_cons (ae_v 4) (aa_cons (ae_v 8) (aa_nil))))) rfl (.inl rfl))
      (ass_cons (AS.nox (as_if (aw_t (aw_or (at_not (at_tru (K := K) (ae_isi (K := K) (ae_v 10) m_isinstance m_str (by decide +kernel)))) (aw_or1 (at_cmp (ao_ne (K := K) hr.units) (ae_v 10) (ae_call (K := K) (g := ⟨w, mg⟩) c_law_by hr hgd (aa_cons (ae_v 3) (aa_cons (ae_v 4) (aa_cons (ae_v 8) (aa_nil)))))))))
      (ass_one (as_ret (ae_bl)))
      (ass_nil)))
      (ass_cons (as_if (at_cmp (ao_ne (K := K) hr.units) (ae_callX (g := ⟨w, mg⟩) c_exchanged_word hr hgd tk rel (aa_cons (ae_v 4) (aa_cons (ae_v 3) (aa_cons (ae_v 10) (aa_nil))))) (ae_v 8))
      (ass_one (AS.nox (as_ret (ae_bl))))
      (ass_nil))
      (ass_one (AS.nox (as_set 8 sc_law.nd (ae_call (K := K) (g := ⟨w, mg⟩) c_law_text hr hgd (aa_cons (ae_v 2) (aa_cons (ae_v 3) (aa_cons (ae_ix (K := K) (ae_lst (aa_cons (ae_int) (aa_cons (ae_int) (aa_nil)))) (ae_op ao_mod (ae_v 9) (ae_int))) (aa_nil))))) rfl (.inl rfl))))))))
      (ass_cons (AS.nox (as_set 11 sc_law.nd (ae_tup (aa_cons (ae_v 3) (aa_cons (ae_callT (ac_tuple (K := K)) m_tuple (by decide +kernel) (aa_cons (ae_lc [("_law_sentence_here", 12)] sc_law.nd (ai_tup (K := K) (ae_ix (K := K) (ae_v 5) (ae_int))) (blkOk_by (own := [("_law_sentence_here", 12)]) (N := ["_law_script", "_law_k", "_law_pen_here", "_law_tongue_here", "_law_other_here", "_law_rule_here", "_law_some", "_law_deep", "_law_word", "_law_turn", "_law_told", "_law_due", "_law_sentence_here"]) (sc := defScope st_law) (by decide +kernel)) (fun _ _ _ _ _ => ag_name 12 (vs := [12]) sc_law.nd rfl (.inl rfl)) (fun _ _ _ _ _ => ats_nil) (fun _ _ _ _ _ => ae_call (K := K) (g := ⟨w, mg⟩) c_law_sentence_by hr hgd (aa_cons (ae_v 3) (aa_cons (ae_v 4) (aa_cons (ae_v 12) (aa_nil)))))) (aa_nil))) (aa_nil)))) rfl (.inl rfl)))
      (ass_cons (as_set 10 sc_law.nd (ae_callX (g := ⟨w, mg⟩) c_exchanged_rule hr hgd tk rel (aa_cons (ae_v 5) (aa_cons (ae_v 4) (aa_nil)))) rfl (.inl rfl))
      (ass_cons (AS.nox (as_if (aw_t (aw_or (at_not (at_tru (K := K) (ae_isi (K := K) (ae_v 10) m_isinstance m_tuple (by decide +kernel)))) (aw_or (at_not (at_tru (K := K) (ae_isi (K := K) (ae_ix (K := K) (ae_v 10) (ae_int)) m_isinstance m_tuple (by decide +kernel)))) (aw_or1 (at_cmp (ao_ne (K := K) hr.units) (ae_v 10) (ae_v 11))))))
      (ass_one (as_ret (ae_bl)))
      (ass_nil)))
      (ass_cons (as_if (at_cmp (ao_ne (K := K) hr.units) (ae_callX (g := ⟨w, mg⟩) c_exchanged_rule hr hgd tk rel (aa_cons (ae_tup (aa_cons (ae_v 4) (aa_cons (ae_ix (K := K) (ae_v 10) (ae_int)) (aa_nil)))) (aa_cons (ae_v 3) (aa_nil)))) (ae_tup (aa_cons (ae_v 4) (aa_cons (ae_ix (K := K) (ae_v 5) (ae_int)) (aa_nil)))))
      (ass_one (AS.nox (as_ret (ae_bl))))
      (ass_nil))
      (ass_cons (AS.nox (as_set 6 sc_law.nd (ae_call (K := K) (g := ⟨w, mg⟩) c_law_no_tongues hr hgd (aa_cons (ae_v 3) (aa_cons (ae_v 4) (aa_nil)))) rfl (.inl rfl)))
      (ass_one (AS.nox (as_for (ai_range1 m_range (aa_cons (ae_int) (aa_nil))) (ag_name 9 (vs := [9]) sc_law.nd rfl (.inl rfl))
      (ass_one (as_if (at_not (at_tru (K := K) (ae_call (K := K) (g := ⟨w, mg⟩) c_law_heard hr hgd (aa_cons (ae_v 3) (aa_cons (ae_ix (K := K) (ae_v 6) (ae_call (K := K) (g := ⟨w, mg⟩) c_law_draw hr hgd (aa_cons (ae_v 2) (aa_cons (ae_callB (ac_len (K := K)) m_len (by decide +kernel) (aa_cons (ae_v 6) (aa_nil))) (aa_nil))))) (aa_cons (ae_v 8) (aa_cons (ae_v 5) (aa_nil))))))))
      (ass_one (as_ret (ae_bl)))
      (ass_nil)))))))))))))))))))))
      (ass_one (AS.nox (as_ret (ae_bl))))⟩
theorem all_mk {l : PySem.W.OpenLaw} {w : World} {K : PySem.W.Frag} {h : Heap} {mg : Str → Option Value} {fa f1 f2 f3 f4 f5 f6 f7 f8 f9 f10 f11 f12 f13 f14 f15 f16 f17 f18 f19 f20 f21 f22 f23 : Addr} (X : K.In h) (G : h.Ns mainGlobals mg) (hfa : mg "law" = some (.ref fa))
    {od1 an1 od2 an2 od3 an3 od4 an4 od5 an5 od6 an6 od7 an7 od8 an8 od9 an9 od10 an10 od11 an11 od12 an12 od13 an13 od14 an14 od15 an15 od16 an16 od17 an17 od18 an18 od19 an19 od20 an20 od21 an21 od22 an22 od23 an23 : Option Addr} {sl1 sl2 sl3 sl4 sl5 sl6 sl7 sl8 sl9 sl10 sl11 sl12 sl13 sl14 sl15 sl16 sl17 sl18 sl19 sl20 sl21 sl22 sl23 : Array (Option Value)} {oc1 kV1 dc1 pm1 cd1 ct1 oc2 kV2 dc2 pm2 cd2 ct2 oc3 kV3 dc3 pm3 cd3 ct3 oc4 kV4 dc4 pm4 cd4 ct4 oc5 kV5 dc5 pm5 cd5 ct5 oc6 kV6 dc6 pm6 cd6 ct6 oc7 kV7 dc7 pm7 cd7 ct7 oc8 kV8 dc8 pm8 cd8 ct8 oc9 kV9 dc9 pm9 cd9 ct9 oc10 kV10 dc10 pm10 cd10 ct10 oc11 kV11 dc11 pm11 cd11 ct11 oc12 kV12 dc12 pm12 cd12 ct12 oc13 kV13 dc13 pm13 cd13 ct13 oc14 kV14 dc14 pm14 cd14 ct14 oc15 kV15 dc15 pm15 cd15 ct15 oc16 kV16 dc16 pm16 cd16 ct16 oc17 kV17 dc17 pm17 cd17 ct17 oc18 kV18 dc18 pm18 cd18 ct18 oc19 kV19 dc19 pm19 cd19 ct19 oc20 kV20 dc20 pm20 cd20 ct20 oc21 kV21 dc21 pm21 cd21 ct21 oc22 kV22 dc22 pm22 cd22 ct22 oc23 kV23 dc23 pm23 cd23 ct23 : Value} {t0 t1 t2 t3 t4 t5 : Tok}
    (a1 : PySem.W.nsIn K mainGlobals "is_sign" = some (some (.ref f1))) (l1 : K.lookup f1 = some ⟨oc1, od1, .func (PySem.W.fnOf "is_sign" "is_sign" (defArgs st_is_sign) (defBody st_is_sign) (defScope st_is_sign) .none kV1 dc1 pm1 an1 cd1 ct1), sl1⟩) (c1 : PySem.W.codeIn K cd1 "is_sign" = true) (k1 : PySem.W.keepIn K (.ref f1) = true)
    (a2 : PySem.W.nsIn K mainGlobals "signs_of" = some (some (.ref f2))) (l2 : K.lookup f2 = some ⟨oc2, od2, .func (PySem.W.fnOf "signs_of" "signs_of" (defArgs st_signs_of) (defBody st_signs_of) (defScope st_signs_of) .none kV2 dc2 pm2 an2 cd2 ct2), sl2⟩) (c2 : PySem.W.codeIn K cd2 "signs_of" = true) (k2 : PySem.W.keepIn K (.ref f2) = true)
    (a3 : PySem.W.nsIn K mainGlobals "text_by" = some (some (.ref f3))) (l3 : K.lookup f3 = some ⟨oc3, od3, .func (PySem.W.fnOf "text_by" "text_by" (defArgs st_text_by) (defBody st_text_by) (defScope st_text_by) .none kV3 dc3 pm3 an3 cd3 ct3), sl3⟩) (c3 : PySem.W.codeIn K cd3 "text_by" = true) (k3 : PySem.W.keepIn K (.ref f3) = true)
    (a4 : PySem.W.nsIn K mainGlobals "_law_pen" = some (some (.ref f4))) (l4 : K.lookup f4 = some ⟨oc4, od4, .func (PySem.W.fnOf "_law_pen" "_law_pen" (defArgs st_law_pen) (defBody st_law_pen) (defScope st_law_pen) .none kV4 dc4 pm4 an4 cd4 ct4), sl4⟩) (c4 : PySem.W.codeIn K cd4 "_law_pen" = true) (k4 : PySem.W.keepIn K (.ref f4) = true)
    (a5 : PySem.W.nsIn K mainGlobals "_law_draw" = some (some (.ref f5))) (l5 : K.lookup f5 = some ⟨oc5, od5, .func (PySem.W.fnOf "_law_draw" "_law_draw" (defArgs st_law_draw) (defBody st_law_draw) (defScope st_law_draw) .none kV5 dc5 pm5 an5 cd5 ct5), sl5⟩) (c5 : PySem.W.codeIn K cd5 "_law_draw" = true) (k5 : PySem.W.keepIn K (.ref f5) = true)
    (a6 : PySem.W.nsIn K mainGlobals "_law_weight" = some (some (.ref f6))) (l6 : K.lookup f6 = some ⟨oc6, od6, .func (PySem.W.fnOf "_law_weight" "_law_weight" (defArgs st_law_weight) (defBody st_law_weight) (defScope st_law_weight) .none kV6 dc6 pm6 an6 cd6 ct6), sl6⟩) (c6 : PySem.W.codeIn K cd6 "_law_weight" = true) (k6 : PySem.W.keepIn K (.ref f6) = true)
    (a7 : PySem.W.nsIn K mainGlobals "_law_by" = some (some (.ref f7))) (l7 : K.lookup f7 = some ⟨oc7, od7, .func (PySem.W.fnOf "_law_by" "_law_by" (defArgs st_law_by) (defBody st_law_by) (defScope st_law_by) .none kV7 dc7 pm7 an7 cd7 ct7), sl7⟩) (c7 : PySem.W.codeIn K cd7 "_law_by" = true) (k7 : PySem.W.keepIn K (.ref f7) = true)
    (a8 : PySem.W.nsIn K mainGlobals "_law_mark" = some (some (.ref f8))) (l8 : K.lookup f8 = some ⟨oc8, od8, .func (PySem.W.fnOf "_law_mark" "_law_mark" (defArgs st_law_mark) (defBody st_law_mark) (defScope st_law_mark) .none kV8 dc8 pm8 an8 cd8 ct8), sl8⟩) (c8 : PySem.W.codeIn K cd8 "_law_mark" = true) (k8 : PySem.W.keepIn K (.ref f8) = true)
    (a9 : PySem.W.nsIn K mainGlobals "_law_no_tongues" = some (some (.ref f9))) (l9 : K.lookup f9 = some ⟨oc9, od9, .func (PySem.W.fnOf "_law_no_tongues" "_law_no_tongues" (defArgs st_law_no_tongues) (defBody st_law_no_tongues) (defScope st_law_no_tongues) .none kV9 dc9 pm9 an9 cd9 ct9), sl9⟩) (c9 : PySem.W.codeIn K cd9 "_law_no_tongues" = true) (k9 : PySem.W.keepIn K (.ref f9) = true)
    (a10 : PySem.W.nsIn K mainGlobals "is_tongue" = some (some (.ref f10))) (l10 : K.lookup f10 = some ⟨oc10, od10, .func (PySem.W.fnOf "is_tongue" "is_tongue" (defArgs st_is_tongue) (defBody st_is_tongue) (defScope st_is_tongue) .none kV10 dc10 pm10 an10 cd10 ct10), sl10⟩) (c10 : PySem.W.codeIn K cd10 "is_tongue" = true) (k10 : PySem.W.keepIn K (.ref f10) = true)
    (a11 : PySem.W.nsIn K mainGlobals "sentence_by" = some (some (.ref f11))) (l11 : K.lookup f11 = some ⟨oc11, od11, .func (PySem.W.fnOf "sentence_by" "sentence_by" (defArgs st_sentence_by) (defBody st_sentence_by) (defScope st_sentence_by) .none kV11 dc11 pm11 an11 cd11 ct11), sl11⟩) (c11 : PySem.W.codeIn K cd11 "sentence_by" = true) (k11 : PySem.W.keepIn K (.ref f11) = true)
    (a12 : PySem.W.nsIn K mainGlobals "_law_tongue" = some (some (.ref f12))) (l12 : K.lookup f12 = some ⟨oc12, od12, .func (PySem.W.fnOf "_law_tongue" "_law_tongue" (defArgs st_law_tongue) (defBody st_law_tongue) (defScope st_law_tongue) .none kV12 dc12 pm12 an12 cd12 ct12), sl12⟩) (c12 : PySem.W.codeIn K cd12 "_law_tongue" = true) (k12 : PySem.W.keepIn K (.ref f12) = true)
    (a13 : PySem.W.nsIn K mainGlobals "_law_text" = some (some (.ref f13))) (l13 : K.lookup f13 = some ⟨oc13, od13, .func (PySem.W.fnOf "_law_text" "_law_text" (defArgs st_law_text) (defBody st_law_text) (defScope st_law_text) .none kV13 dc13 pm13 an13 cd13 ct13), sl13⟩) (c13 : PySem.W.codeIn K cd13 "_law_text" = true) (k13 : PySem.W.keepIn K (.ref f13) = true)
    (a14 : PySem.W.nsIn K mainGlobals "_law_other" = some (some (.ref f14))) (l14 : K.lookup f14 = some ⟨oc14, od14, .func (PySem.W.fnOf "_law_other" "_law_other" (defArgs st_law_other) (defBody st_law_other) (defScope st_law_other) .none kV14 dc14 pm14 an14 cd14 ct14), sl14⟩) (c14 : PySem.W.codeIn K cd14 "_law_other" = true) (k14 : PySem.W.keepIn K (.ref f14) = true)
    (a15 : PySem.W.nsIn K mainGlobals "_law_sentence_by" = some (some (.ref f15))) (l15 : K.lookup f15 = some ⟨oc15, od15, .func (PySem.W.fnOf "_law_sentence_by" "_law_sentence_by" (defArgs st_law_sentence_by) (defBody st_law_sentence_by) (defScope st_law_sentence_by) .none kV15 dc15 pm15 an15 cd15 ct15), sl15⟩) (c15 : PySem.W.codeIn K cd15 "_law_sentence_by" = true) (k15 : PySem.W.keepIn K (.ref f15) = true)
    (a16 : PySem.W.nsIn K mainGlobals "table_of" = some (some (.ref f16))) (l16 : K.lookup f16 = some ⟨oc16, od16, .func (PySem.W.fnOf "table_of" "table_of" (defArgs st_table_of) (defBody st_table_of) (defScope st_table_of) .none kV16 dc16 pm16 an16 cd16 ct16), sl16⟩) (c16 : PySem.W.codeIn K cd16 "table_of" = true) (k16 : PySem.W.keepIn K (.ref f16) = true)
    (a17 : PySem.W.nsIn K mainGlobals "_law_plain" = some (some (.ref f17))) (l17 : K.lookup f17 = some ⟨oc17, od17, .func (PySem.W.fnOf "_law_plain" "_law_plain" (defArgs st_law_plain) (defBody st_law_plain) (defScope st_law_plain) .none kV17 dc17 pm17 an17 cd17 ct17), sl17⟩) (c17 : PySem.W.codeIn K cd17 "_law_plain" = true) (k17 : PySem.W.keepIn K (.ref f17) = true)
    (a18 : PySem.W.nsIn K mainGlobals "exchanged_word" = some (some (.ref f18))) (l18 : K.lookup f18 = some ⟨oc18, od18, .func (PySem.W.fnOf "exchanged_word" "exchanged_word" (defArgs st_exchanged_word) (defBody st_exchanged_word) (defScope st_exchanged_word) .none kV18 dc18 pm18 an18 cd18 ct18), sl18⟩) (c18 : PySem.W.codeIn K cd18 "exchanged_word" = true) (k18 : PySem.W.keepIn K (.ref f18) = true)
    (a19 : PySem.W.nsIn K mainGlobals "_law_sentence" = some (some (.ref f19))) (l19 : K.lookup f19 = some ⟨oc19, od19, .func (PySem.W.fnOf "_law_sentence" "_law_sentence" (defArgs st_law_sentence) (defBody st_law_sentence) (defScope st_law_sentence) .none kV19 dc19 pm19 an19 cd19 ct19), sl19⟩) (c19 : PySem.W.codeIn K cd19 "_law_sentence" = true) (k19 : PySem.W.keepIn K (.ref f19) = true)
    (a20 : PySem.W.nsIn K mainGlobals "exchanged_rule" = some (some (.ref f20))) (l20 : K.lookup f20 = some ⟨oc20, od20, .func (PySem.W.fnOf "exchanged_rule" "exchanged_rule" (defArgs st_exchanged_rule) (defBody st_exchanged_rule) (defScope st_exchanged_rule) .none kV20 dc20 pm20 an20 cd20 ct20), sl20⟩) (c20 : PySem.W.codeIn K cd20 "exchanged_rule" = true) (k20 : PySem.W.keepIn K (.ref f20) = true)
    (a21 : PySem.W.nsIn K mainGlobals "_law_heard" = some (some (.ref f21))) (l21 : K.lookup f21 = some ⟨oc21, od21, .func (PySem.W.fnOf "_law_heard" "_law_heard" (defArgs st_law_heard) (defBody st_law_heard) (defScope st_law_heard) .none kV21 dc21 pm21 an21 cd21 ct21), sl21⟩) (c21 : PySem.W.codeIn K cd21 "_law_heard" = true) (k21 : PySem.W.keepIn K (.ref f21) = true)
    (a22 : PySem.W.nsIn K mainGlobals "_law_rule" = some (some (.ref f22))) (l22 : K.lookup f22 = some ⟨oc22, od22, .func (PySem.W.fnOf "_law_rule" "_law_rule" (defArgs st_law_rule) (defBody st_law_rule) (defScope st_law_rule) .none kV22 dc22 pm22 an22 cd22 ct22), sl22⟩) (c22 : PySem.W.codeIn K cd22 "_law_rule" = true) (k22 : PySem.W.keepIn K (.ref f22) = true)
    (a23 : PySem.W.nsIn K mainGlobals "law" = some (some (.ref f23))) (l23 : K.lookup f23 = some ⟨oc23, od23, .func (PySem.W.fnOf "law" "law" (defArgs st_law) (defBody st_law) (defScope st_law) .none kV23 dc23 pm23 an23 cd23 ct23), sl23⟩) (c23 : PySem.W.codeIn K cd23 "law" = true) (k23 : PySem.W.keepIn K (.ref f23) = true)
    (z0 : PySem.W.nsIn K mainGlobals "ValueError" = some none)    (z1 : PySem.W.nsIn K mainGlobals "all" = some none)    (z2 : PySem.W.nsIn K mainGlobals "dict" = some none)    (z3 : PySem.W.nsIn K mainGlobals "int" = some none)    (z4 : PySem.W.nsIn K mainGlobals "isinstance" = some none)    (z5 : PySem.W.nsIn K mainGlobals "len" = some none)    (z6 : PySem.W.nsIn K mainGlobals "list" = some none)    (z7 : PySem.W.nsIn K mainGlobals "max" = some none)    (z8 : PySem.W.nsIn K mainGlobals "ord" = some none)    (z9 : PySem.W.nsIn K mainGlobals "range" = some none)    (z10 : PySem.W.nsIn K mainGlobals "set" = some none)    (z11 : PySem.W.nsIn K mainGlobals "sorted" = some none)    (z12 : PySem.W.nsIn K mainGlobals "str" = some none)    (z13 : PySem.W.nsIn K mainGlobals "sum" = some none)    (z14 : PySem.W.nsIn K mainGlobals "tuple" = some none)    (z15 : PySem.W.nsIn K mainGlobals "zip" = some none)    (y0 : PySem.W.nsIn K mainGlobals "FIRST_SIGN" = some (some (.int 33 t0)))    (y1 : PySem.W.nsIn K mainGlobals "LAST_SIGN" = some (some (.int 126 t1)))    (y2 : PySem.W.nsIn K mainGlobals "MOST_IN_KIND" = some (some (.int 6 t2)))    (y3 : PySem.W.nsIn K mainGlobals "MOST_KINDS" = some (some (.int 4 t3)))    (y4 : PySem.W.nsIn K mainGlobals "MOST_SIGNS" = some (some (.int 12 t4)))    (y5 : PySem.W.nsIn K mainGlobals "NO_SIGN" = some (some (.int 37 t5)))    {ec0 ec1 ec2 ec3 ec4 ec5 ec6 ec7 ec8 ec9 ec10 ec11 ec12 ec13 : Addr}
    (ea0 : PySem.W.nsIn K mainGlobals "Elder" = some (some (.ref ec0))) (ek0 : PySem.W.keepIn K (.ref ec0) = true) (eb0 : PySem.W.subIn K (.ref ec0) (.type "BaseException") = some true) (et0 : PySem.W.typeIn K (.ref ec0) = some (.type "type")) (ei0 : PySem.W.isClsIn K ec0 = true)
    (ea1 : PySem.W.nsIn K mainGlobals "Near" = some (some (.ref ec1))) (ek1 : PySem.W.keepIn K (.ref ec1) = true) (eb1 : PySem.W.subIn K (.ref ec1) (.type "BaseException") = some true) (et1 : PySem.W.typeIn K (.ref ec1) = some (.type "type")) (ei1 : PySem.W.isClsIn K ec1 = true)
    (ea2 : PySem.W.nsIn K mainGlobals "NoBack" = some (some (.ref ec2))) (ek2 : PySem.W.keepIn K (.ref ec2) = true) (eb2 : PySem.W.subIn K (.ref ec2) (.type "BaseException") = some true) (et2 : PySem.W.typeIn K (.ref ec2) = some (.type "type")) (ei2 : PySem.W.isClsIn K ec2 = true)
    (ea3 : PySem.W.nsIn K mainGlobals "NoFit" = some (some (.ref ec3))) (ek3 : PySem.W.keepIn K (.ref ec3) = true) (eb3 : PySem.W.subIn K (.ref ec3) (.type "BaseException") = some true) (et3 : PySem.W.typeIn K (.ref ec3) = some (.type "type")) (ei3 : PySem.W.isClsIn K ec3 = true)
    (ea4 : PySem.W.nsIn K mainGlobals "NoLine" = some (some (.ref ec4))) (ek4 : PySem.W.keepIn K (.ref ec4) = true) (eb4 : PySem.W.subIn K (.ref ec4) (.type "BaseException") = some true) (et4 : PySem.W.typeIn K (.ref ec4) = some (.type "type")) (ei4 : PySem.W.isClsIn K ec4 = true)
    (ea5 : PySem.W.nsIn K mainGlobals "NoName" = some (some (.ref ec5))) (ek5 : PySem.W.keepIn K (.ref ec5) = true) (eb5 : PySem.W.subIn K (.ref ec5) (.type "BaseException") = some true) (et5 : PySem.W.typeIn K (.ref ec5) = some (.type "type")) (ei5 : PySem.W.isClsIn K ec5 = true)
    (ea6 : PySem.W.nsIn K mainGlobals "NoNumber" = some (some (.ref ec6))) (ek6 : PySem.W.keepIn K (.ref ec6) = true) (eb6 : PySem.W.subIn K (.ref ec6) (.type "BaseException") = some true) (et6 : PySem.W.typeIn K (.ref ec6) = some (.type "type")) (ei6 : PySem.W.isClsIn K ec6 = true)
    (ea7 : PySem.W.nsIn K mainGlobals "NoSentence" = some (some (.ref ec7))) (ek7 : PySem.W.keepIn K (.ref ec7) = true) (eb7 : PySem.W.subIn K (.ref ec7) (.type "BaseException") = some true) (et7 : PySem.W.typeIn K (.ref ec7) = some (.type "type")) (ei7 : PySem.W.isClsIn K ec7 = true)
    (ea8 : PySem.W.nsIn K mainGlobals "NoText" = some (some (.ref ec8))) (ek8 : PySem.W.keepIn K (.ref ec8) = true) (eb8 : PySem.W.subIn K (.ref ec8) (.type "BaseException") = some true) (et8 : PySem.W.typeIn K (.ref ec8) = some (.type "type")) (ei8 : PySem.W.isClsIn K ec8 = true)
    (ea9 : PySem.W.nsIn K mainGlobals "NoTongue" = some (some (.ref ec9))) (ex9 : PySem.W.excIn K ec9 [.type "ValueError", .type "Exception", .type "BaseException", .type "object"] "ValueError.__new__" = true) (ek9 : PySem.W.keepIn K (.ref ec9) = true) (eb9 : PySem.W.subIn K (.ref ec9) (.type "BaseException") = some true) (et9 : PySem.W.typeIn K (.ref ec9) = some (.type "type")) (ei9 : PySem.W.isClsIn K ec9 = true)
    (ea10 : PySem.W.nsIn K mainGlobals "NoWord" = some (some (.ref ec10))) (ek10 : PySem.W.keepIn K (.ref ec10) = true) (eb10 : PySem.W.subIn K (.ref ec10) (.type "BaseException") = some true) (et10 : PySem.W.typeIn K (.ref ec10) = some (.type "type")) (ei10 : PySem.W.isClsIn K ec10 = true)
    (ea11 : PySem.W.nsIn K mainGlobals "TooMany" = some (some (.ref ec11))) (ek11 : PySem.W.keepIn K (.ref ec11) = true) (eb11 : PySem.W.subIn K (.ref ec11) (.type "BaseException") = some true) (et11 : PySem.W.typeIn K (.ref ec11) = some (.type "type")) (ei11 : PySem.W.isClsIn K ec11 = true)
    (ea12 : PySem.W.nsIn K mainGlobals "TooMuch" = some (some (.ref ec12))) (ek12 : PySem.W.keepIn K (.ref ec12) = true) (eb12 : PySem.W.subIn K (.ref ec12) (.type "BaseException") = some true) (et12 : PySem.W.typeIn K (.ref ec12) = some (.type "type")) (ei12 : PySem.W.isClsIn K ec12 = true)
    (ea13 : PySem.W.nsIn K mainGlobals "WordError" = some (some (.ref ec13))) (ek13 : PySem.W.keepIn K (.ref ec13) = true) (eb13 : PySem.W.subIn K (.ref ec13) (.type "BaseException") = some true) (et13 : PySem.W.typeIn K (.ref ec13) = some (.type "type")) (ei13 : PySem.W.isClsIn K ec13 = true)
    (en0 : PySem.W.specialIn K (.builtin "object.__class__") "__get__" = some (some (.builtin "getset_descriptor.__get__"))) (eo0 : PySem.W.takesIn K (.builtin "object.__class__") = some true)    (eg9 : PySem.W.findIn K (.ref ec9) "__getattribute__" = some (some (.builtin "BaseException.__getattribute__"))) (eh9 : PySem.W.findIn K (.ref ec9) "__getattr__" = some none) (ed9 : PySem.W.hasDictIn K ec9 = true) (el9 : PySem.W.findIn K (.ref ec9) "__class__" = some (some (.builtin "object.__class__"))) (em9 : PySem.W.mroIn K ec9 (.type "object") = some true)
    (ev9 : PySem.W.subIn K (.ref ec9) (.type "ValueError") = some true)
    (ooN0 : decide (ec9 = ec0) = false) (et90 : PySem.W.subIn K (.ref ec9) (.ref ec0) = some false)
    (ooN1 : decide (ec9 = ec1) = false) (et91 : PySem.W.subIn K (.ref ec9) (.ref ec1) = some false)
    (ooN2 : decide (ec9 = ec2) = false) (et92 : PySem.W.subIn K (.ref ec9) (.ref ec2) = some false)
    (ooN3 : decide (ec9 = ec3) = false) (et93 : PySem.W.subIn K (.ref ec9) (.ref ec3) = some false)
    (ooN4 : decide (ec9 = ec4) = false) (et94 : PySem.W.subIn K (.ref ec9) (.ref ec4) = some false)
    (ooN5 : decide (ec9 = ec5) = false) (et95 : PySem.W.subIn K (.ref ec9) (.ref ec5) = some false)
    (ooN6 : decide (ec9 = ec6) = false) (et96 : PySem.W.subIn K (.ref ec9) (.ref ec6) = some false)
    (ooN7 : decide (ec9 = ec7) = false) (et97 : PySem.W.subIn K (.ref ec9) (.ref ec7) = some false)
    (ooN8 : decide (ec9 = ec8) = false) (et98 : PySem.W.subIn K (.ref ec9) (.ref ec8) = some false)
    (ooN10 : decide (ec9 = ec10) = false) (et910 : PySem.W.subIn K (.ref ec9) (.ref ec10) = some false)
    (ooN11 : decide (ec9 = ec11) = false) (et911 : PySem.W.subIn K (.ref ec9) (.ref ec11) = some false)
    (ooN12 : decide (ec9 = ec12) = false) (et912 : PySem.W.subIn K (.ref ec9) (.ref ec12) = some false)
    (es0 : PySem.W.subIn K (.ref ec9) (.ref ec13) = some true)
 :
    ∃ fd : FuncData, (∀ (s : Shared) (v : Value), BindsTo s fd ⟨[v], []⟩ [("_law_script", v)]) ∧ ∀ base : Heap, K.In base → base.Ns mainGlobals mg → FnG l.prog w K mg base 14 fa fd ["_law_script"] (spOf ⟨w, mg⟩ K 1 s_law) := by
  have e := hfa.symm.trans (PySem.W.mg_of X G a23)
  cases e
  have F1 := fun_mk (st := st_is_sign) l1 c1 k1
  have b1 := F1.binds (ps := ["thing"]) fun _ _ _ _ _ _ us hl => match us, hl with | [_], _ => rfl
  have F2 := fun_mk (st := st_signs_of) l2 c2 k2
  have b2 := F2.binds (ps := ["tongue"]) fun _ _ _ _ _ _ us hl => match us, hl with | [_], _ => rfl
  have F3 := fun_mk (st := st_text_by) l3 c3 k3
  have b3 := F3.binds (ps := ["table", "text"]) fun _ _ _ _ _ _ us hl => match us, hl with | [_, _], _ => rfl
  have F4 := fun_mk (st := st_law_pen) l4 c4 k4
  have b4 := F4.binds (ps := ["_law_script", "_law_k"]) fun _ _ _ _ _ _ us hl => match us, hl with | [_, _], _ => rfl
  have F5 := fun_mk (st := st_law_draw) l5 c5 k5
  have b5 := F5.binds (ps := ["_law_pen_here", "_law_many"]) fun _ _ _ _ _ _ us hl => match us, hl with | [_, _], _ => rfl
  have F6 := fun_mk (st := st_law_weight) l6 c6 k6
  have b6 := F6.binds (ps := ["_law_tongue_here", "_law_sentence_here"]) fun _ _ _ _ _ _ us hl => match us, hl with | [_, _], _ => rfl
  have F7 := fun_mk (st := st_law_by) l7 c7 k7
  have b7 := F7.binds (ps := ["_law_tongue_here", "_law_other_here", "_law_text_here"]) fun _ _ _ _ _ _ us hl => match us, hl with | [_, _, _], _ => rfl
  have F8 := fun_mk (st := st_law_mark) l8 c8 k8
  have b8 := F8.binds (ps := ["_law_e"]) fun _ _ _ _ _ _ us hl => match us, hl with | [_], _ => rfl
  have F9 := fun_mk (st := st_law_no_tongues) l9 c9 k9
  have b9 := F9.binds (ps := ["_law_tongue_here", "_law_other_here"]) fun _ _ _ _ _ _ us hl => match us, hl with | [_, _], _ => rfl
  have F10 := fun_mk (st := st_is_tongue) l10 c10 k10
  have b10 := F10.binds (ps := ["thing"]) fun _ _ _ _ _ _ us hl => match us, hl with | [_], _ => rfl
  have F11 := fun_mk (st := st_sentence_by) l11 c11 k11
  have b11 := F11.binds (ps := ["table", "sentence"]) fun _ _ _ _ _ _ us hl => match us, hl with | [_, _], _ => rfl
  have F12 := fun_mk (st := st_law_tongue) l12 c12 k12
  have b12 := F12.binds (ps := ["_law_pen_here", "_law_most"]) fun _ _ _ _ _ _ us hl => match us, hl with | [_, _], _ => rfl
  have F13 := fun_mk (st := st_law_text) l13 c13 k13
  have b13 := F13.binds (ps := ["_law_pen_here", "_law_tongue_here", "_law_most"]) fun _ _ _ _ _ _ us hl => match us, hl with | [_, _, _], _ => rfl
  have F14 := fun_mk (st := st_law_other) l14 c14 k14
  have b14 := F14.binds (ps := ["_law_pen_here", "_law_tongue_here"]) fun _ _ _ _ _ _ us hl => match us, hl with | [_, _], _ => rfl
  have F15 := fun_mk (st := st_law_sentence_by) l15 c15 k15
  have b15 := F15.binds (ps := ["_law_tongue_here", "_law_other_here", "_law_sentence_here"]) fun _ _ _ _ _ _ us hl => match us, hl with | [_, _, _], _ => rfl
  have F16 := fun_mk (st := st_table_of) l16 c16 k16
  have b16 := F16.binds (ps := ["tongue", "other"]) fun _ _ _ _ _ _ us hl => match us, hl with | [_, _], _ => rfl
  have F17 := fun_mk (st := st_law_plain) l17 c17 k17
  have b17 := F17.binds (ps := ["_law_pen_here", "_law_tongue_here"]) fun _ _ _ _ _ _ us hl => match us, hl with | [_, _], _ => rfl
  have F18 := fun_mk (st := st_exchanged_word) l18 c18 k18
  have b18 := F18.binds (ps := ["tongue", "other", "word"]) fun _ _ _ _ _ _ us hl => match us, hl with | [_, _, _], _ => rfl
  have F19 := fun_mk (st := st_law_sentence) l19 c19 k19
  have b19 := F19.binds (ps := ["_law_pen_here", "_law_tongue_here", "_law_deep"]) fun _ _ _ _ _ _ us hl => match us, hl with | [_, _, _], _ => rfl
  have F20 := fun_mk (st := st_exchanged_rule) l20 c20 k20
  have b20 := F20.binds (ps := ["rule", "other"]) fun _ _ _ _ _ _ us hl => match us, hl with | [_, _], _ => rfl
  have F21 := fun_mk (st := st_law_heard) l21 c21 k21
  have b21 := F21.binds (ps := ["_law_tongue_here", "_law_thing", "_law_word", "_law_rule_here"]) fun _ _ _ _ _ _ us hl => match us, hl with | [_, _, _, _], _ => rfl
  have F22 := fun_mk (st := st_law_rule) l22 c22 k22
  have b22 := F22.binds (ps := ["_law_pen_here", "_law_tongue_here", "_law_most"]) fun _ _ _ _ _ _ us hl => match us, hl with | [_, _, _], _ => rfl
  have F23 := fun_mk (st := st_law) l23 c23 k23
  have b23 := F23.binds (ps := ["_law_script"]) fun _ _ _ _ _ _ us hl => match us, hl with | [_], _ => rfl
  have m_ValueError := PySem.W.mg_none_of X G z0
  have m_all := PySem.W.mg_none_of X G z1
  have m_dict := PySem.W.mg_none_of X G z2
  have m_int := PySem.W.mg_none_of X G z3
  have m_isinstance := PySem.W.mg_none_of X G z4
  have m_len := PySem.W.mg_none_of X G z5
  have m_list := PySem.W.mg_none_of X G z6
  have m_max := PySem.W.mg_none_of X G z7
  have m_ord := PySem.W.mg_none_of X G z8
  have m_range := PySem.W.mg_none_of X G z9
  have m_set := PySem.W.mg_none_of X G z10
  have m_sorted := PySem.W.mg_none_of X G z11
  have m_str := PySem.W.mg_none_of X G z12
  have m_sum := PySem.W.mg_none_of X G z13
  have m_tuple := PySem.W.mg_none_of X G z14
  have m_zip := PySem.W.mg_none_of X G z15
  have g_FIRST_SIGN : ∃ u, mg "FIRST_SIGN" = some u ∧ RelV (.int 33) u := ⟨_, PySem.W.mg_of X G y0, ⟨_, rfl⟩⟩
  have g_LAST_SIGN : ∃ u, mg "LAST_SIGN" = some u ∧ RelV (.int 126) u := ⟨_, PySem.W.mg_of X G y1, ⟨_, rfl⟩⟩
  have g_MOST_IN_KIND : ∃ u, mg "MOST_IN_KIND" = some u ∧ RelV (.int 6) u := ⟨_, PySem.W.mg_of X G y2, ⟨_, rfl⟩⟩
  have g_MOST_KINDS : ∃ u, mg "MOST_KINDS" = some u ∧ RelV (.int 4) u := ⟨_, PySem.W.mg_of X G y3, ⟨_, rfl⟩⟩
  have g_MOST_SIGNS : ∃ u, mg "MOST_SIGNS" = some u ∧ RelV (.int 12) u := ⟨_, PySem.W.mg_of X G y4, ⟨_, rfl⟩⟩
  have g_NO_SIGN : ∃ u, mg "NO_SIGN" = some u ∧ RelV (.int 37) u := ⟨_, PySem.W.mg_of X G y5, ⟨_, rfl⟩⟩
  have e_NoTongue : ExcF K mg "NoTongue" := ⟨_, PySem.W.mg_of X G ea9, ex9, ek9, eb9, et9⟩
  have h_WordError := PySem.W.mg_of X G ea13
  have sf : SubF K mg subE := subF_cons (PySem.W.mg_of X G ea9) (PySem.W.mg_of X G ea13) (exm_of eb13 ei13 et13 es0) (subF_nil)
  have q_Elder := PySem.W.mg_of X G ea0
  have q_Near := PySem.W.mg_of X G ea1
  have q_NoBack := PySem.W.mg_of X G ea2
  have q_NoFit := PySem.W.mg_of X G ea3
  have q_NoLine := PySem.W.mg_of X G ea4
  have q_NoName := PySem.W.mg_of X G ea5
  have q_NoNumber := PySem.W.mg_of X G ea6
  have q_NoSentence := PySem.W.mg_of X G ea7
  have q_NoText := PySem.W.mg_of X G ea8
  have q_NoTongue := PySem.W.mg_of X G ea9
  have q_NoWord := PySem.W.mg_of X G ea10
  have q_TooMany := PySem.W.mg_of X G ea11
  have q_TooMuch := PySem.W.mg_of X G ea12
  have xc9 : ExcC K ec9 := ⟨eg9, eh9, eb9, ed9, el9, en0, eo0, em9⟩
  have isf : IsF K mg isubE := isF_cons (PySem.W.mg_of X G ea9) (PySem.W.mg_of X G ea0) (by decide) xc9 (kit_ne ooN0 ei0 et0 et90) (isF_cons (PySem.W.mg_of X G ea9) (PySem.W.mg_of X G ea1) (by decide) xc9 (kit_ne ooN1 ei1 et1 et91) (isF_cons (PySem.W.mg_of X G ea9) (PySem.W.mg_of X G ea2) (by decide) xc9 (kit_ne ooN2 ei2 et2 et92) (isF_cons (PySem.W.mg_of X G ea9) (PySem.W.mg_of X G ea3) (by decide) xc9 (kit_ne ooN3 ei3 et3 et93) (isF_cons (PySem.W.mg_of X G ea9) (PySem.W.mg_of X G ea4) (by decide) xc9 (kit_ne ooN4 ei4 et4 et94) (isF_cons (PySem.W.mg_of X G ea9) (PySem.W.mg_of X G ea5) (by decide) xc9 (kit_ne ooN5 ei5 et5 et95) (isF_cons (PySem.W.mg_of X G ea9) (PySem.W.mg_of X G ea6) (by decide) xc9 (kit_ne ooN6 ei6 et6 et96) (isF_cons (PySem.W.mg_of X G ea9) (PySem.W.mg_of X G ea7) (by decide) xc9 (kit_ne ooN7 ei7 et7 et97) (isF_cons (PySem.W.mg_of X G ea9) (PySem.W.mg_of X G ea8) (by decide) xc9 (kit_ne ooN8 ei8 et8 et98) (isF_cons (PySem.W.mg_of X G ea9) (PySem.W.mg_of X G ea9) (by decide) xc9 kit_self (isF_cons (PySem.W.mg_of X G ea9) (PySem.W.mg_of X G ea10) (by decide) xc9 (kit_ne ooN10 ei10 et10 et910) (isF_cons (PySem.W.mg_of X G ea9) (PySem.W.mg_of X G ea11) (by decide) xc9 (kit_ne ooN11 ei11 et11 et911) (isF_cons (PySem.W.mg_of X G ea9) (PySem.W.mg_of X G ea12) (by decide) xc9 (kit_ne ooN12 ei12 et12 et912) (isF_val (PySem.W.mg_of X G ea9) m_ValueError xc9 (kit_val ev9) (isF_nil))))))))))))))
  refine ⟨PySem.W.fnOf "law" "law" (defArgs st_law) (defBody st_law) (defScope st_law) .none kV23 dc23 pm23 an23 cd23 ct23, fun s v => .of_eq rfl, fun base _ _ => ?_⟩
  have c_is_sign : Cal l.prog w K mg base 1 "is_sign" 1 s_is_sign := ok_is_sign F1 (PySem.W.mg_of X G a1) b1 m_len m_ord g_FIRST_SIGN g_LAST_SIGN g_NO_SIGN
  have c_signs_of : Cal l.prog w K mg base 1 "signs_of" 1 s_signs_of := ok_signs_of F2 (PySem.W.mg_of X G a2) b2 
  have c_text_by : Cal l.prog w K mg base 1 "text_by" 2 s_text_by := ok_text_by F3 (PySem.W.mg_of X G a3) b3 
  have c_law_pen : Cal l.prog w K mg base 1 "_law_pen" 2 s_law_pen := ok_law_pen F4 (PySem.W.mg_of X G a4) b4 m_len
  have c_law_draw : Cal l.prog w K mg base 1 "_law_draw" 2 s_law_draw := ok_law_draw F5 (PySem.W.mg_of X G a5) b5 
  have c_law_weight : Cal l.prog w K mg base 9 "_law_weight" 2 (s_law_weight 8) := ok_law_weight F6 (PySem.W.mg_of X G a6) b6 m_int m_len 8
  have c_law_by : Cal l.prog w K mg base 1 "_law_by" 3 s_law_by := ok_law_by F7 (PySem.W.mg_of X G a7) b7 
  have c_law_mark : Cal l.prog w K mg base 1 "_law_mark" 1 s_law_mark := ok_law_mark F8 (PySem.W.mg_of X G a8) b8 m_ValueError m_isinstance q_Elder q_Near q_NoBack q_NoFit q_NoLine q_NoName q_NoNumber q_NoSentence q_NoText q_NoTongue q_NoWord q_TooMany q_TooMuch isf
  have c_law_no_tongues : Cal l.prog w K mg base 1 "_law_no_tongues" 2 s_law_no_tongues := ok_law_no_tongues F9 (PySem.W.mg_of X G a9) b9 m_len m_list
  have c_is_tongue : Cal l.prog w K mg base 2 "is_tongue" 1 s_is_tongue := ok_is_tongue F10 (PySem.W.mg_of X G a10) b10 m_all m_isinstance m_len m_set m_str m_tuple g_MOST_IN_KIND g_MOST_KINDS g_MOST_SIGNS c_is_sign
  have c_sentence_by : Cal l.prog w K mg base 10 "sentence_by" 2 (s_sentence_by 8) := ok_sentence_by F11 (PySem.W.mg_of X G a11) b11 c_text_by 8
  have c_law_tongue : Cal l.prog w K mg base 2 "_law_tongue" 2 s_law_tongue := ok_law_tongue F12 (PySem.W.mg_of X G a12) b12 m_len m_max m_range m_sum m_tuple c_law_draw
  have c_law_text : Cal l.prog w K mg base 2 "_law_text" 3 s_law_text := ok_law_text F13 (PySem.W.mg_of X G a13) b13 m_len m_range c_law_draw
  have c_law_other : Cal l.prog w K mg base 2 "_law_other" 2 s_law_other := ok_law_other F14 (PySem.W.mg_of X G a14) b14 m_len m_tuple c_law_draw
  have c_law_sentence_by : Cal l.prog w K mg base 10 "_law_sentence_by" 3 (s_law_sentence_by 8) := ok_law_sentence_by F15 (PySem.W.mg_of X G a15) b15 m_isinstance m_str m_tuple c_law_by 8
  have c_table_of : CalX l.prog w K mg base 3 "table_of" 2 s_table_of := ok_table_of F16 (PySem.W.mg_of X G a16) b16 m_dict m_len m_sorted m_zip e_NoTongue c_signs_of c_is_tongue
  have c_law_plain : Cal l.prog w K mg base 3 "_law_plain" 2 s_law_plain := ok_law_plain F17 (PySem.W.mg_of X G a17) b17 m_len c_law_draw c_law_text
  have c_exchanged_word : CalX l.prog w K mg base 4 "exchanged_word" 3 s_exchanged_word := ok_exchanged_word F18 (PySem.W.mg_of X G a18) b18 c_text_by c_table_of
  have c_law_sentence : Cal l.prog w K mg base 12 "_law_sentence" 3 (s_law_sentence 8) := ok_law_sentence F19 (PySem.W.mg_of X G a19) b19 c_law_draw c_law_plain 8
  have c_exchanged_rule : CalX l.prog w K mg base 11 "exchanged_rule" 2 s_exchanged_rule := ok_exchanged_rule F20 (PySem.W.mg_of X G a20) b20 m_tuple c_sentence_by c_table_of
  have c_law_heard : Cal l.prog w K mg base 12 "_law_heard" 4 s_law_heard := ok_law_heard F21 (PySem.W.mg_of X G a21) b21 m_range h_WordError sf c_law_mark c_exchanged_word c_exchanged_rule
  have c_law_rule : Cal l.prog w K mg base 13 "_law_rule" 3 s_law_rule := ok_law_rule F22 (PySem.W.mg_of X G a22) b22 m_range m_tuple c_law_draw c_law_weight c_law_sentence
  exact okF_law F23 m_isinstance m_len m_range m_str m_tuple c_law_pen c_law_draw c_law_by c_law_no_tongues c_law_tongue c_law_text c_law_other c_law_sentence_by c_exchanged_word c_exchanged_rule c_law_heard c_law_rule
end A_k39
open PySem PySem.W PyProof.Rows
set_option maxHeartbeats 0 in
theorem PySem.Challenge.cw_wordrules_k39_words_and_rules_exchanged_holds : PySem.Challenge.rw_wordrules_k39_words_and_rules_exchanged.Holds := by
  w_on; o_law; k_head; (case hw => w_witness2)
  k_fill
  refine AL.walk_G (l := PySem.Challenge.rw_wordrules_k39_words_and_rules_exchanged) (n := 63) (k := 14) (x := "_law_script") (sp := fun w mg => AL.spOf ⟨w, mg⟩ _ 1 A_k39.s_law) rfl (by decide) rfl ⟨rfl, by decide, by decide⟩ (fun w h Y => PySem.W.kIn_of Y) ?F (fun _ _ H a ns hl _ hS => AL.law_sp A_k39.law_true _ _ H a ns hl hS)
  case F =>
    intro w mg fa h KX G hmg
    refine' A_k39.all_mk KX G hmg ?a1 ?l1 ?c1 ?k1 ?a2 ?l2 ?c2 ?k2 ?a3 ?l3 ?c3 ?k3 ?a4 ?l4 ?c4 ?k4 ?a5 ?l5 ?c5 ?k5 ?a6 ?l6 ?c6 ?k6 ?a7 ?l7 ?c7 ?k7 ?a8 ?l8 ?c8 ?k8 ?a9 ?l9 ?c9 ?k9 ?a10 ?l10 ?c10 ?k10 ?a11 ?l11 ?c11 ?k11 ?a12 ?l12 ?c12 ?k12 ?a13 ?l13 ?c13 ?k13 ?a14 ?l14 ?c14 ?k14 ?a15 ?l15 ?c15 ?k15 ?a16 ?l16 ?c16 ?k16 ?a17 ?l17 ?c17 ?k17 ?a18 ?l18 ?c18 ?k18 ?a19 ?l19 ?c19 ?k19 ?a20 ?l20 ?c20 ?k20 ?a21 ?l21 ?c21 ?k21 ?a22 ?l22 ?c22 ?k22 ?a23 ?l23 ?c23 ?k23 ?z0 ?z1 ?z2 ?z3 ?z4 ?z5 ?z6 ?z7 ?z8 ?z9 ?z10 ?z11 ?z12 ?z13 ?z14 ?z15 ?y0 ?y1 ?y2 ?y3 ?y4 ?y5 ?ea0 ?ek0 ?eb0 ?et0 ?ei0 ?ea1 ?ek1 ?eb1 ?et1 ?ei1 ?ea2 ?ek2 ?eb2 ?et2 ?ei2 ?ea3 ?ek3 ?eb3 ?et3 ?ei3 ?ea4 ?ek4 ?eb4 ?et4 ?ei4 ?ea5 ?ek5 ?eb5 ?et5 ?ei5 ?ea6 ?ek6 ?eb6 ?et6 ?ei6 ?ea7 ?ek7 ?eb7 ?et7 ?ei7 ?ea8 ?ek8 ?eb8 ?et8 ?ei8 ?ea9 ?ex9 ?ek9 ?eb9 ?et9 ?ei9 ?ea10 ?ek10 ?eb10 ?et10 ?ei10 ?ea11 ?ek11 ?eb11 ?et11 ?ei11 ?ea12 ?ek12 ?eb12 ?et12 ?ei12 ?ea13 ?ek13 ?eb13 ?et13 ?ei13 ?en0 ?eo0 ?eg9 ?eh9 ?ed9 ?el9 ?em9 ?ev9 ?ooN0 ?et90 ?ooN1 ?et91 ?ooN2 ?et92 ?ooN3 ?et93 ?ooN4 ?et94 ?ooN5 ?et95 ?ooN6 ?et96 ?ooN7 ?et97 ?ooN8 ?et98 ?ooN10 ?et910 ?ooN11 ?et911 ?ooN12 ?et912 ?es0
    (case a1 => k_is); (case l1 => k_is); (case c1 => k_is); (case k1 => k_is); (case a2 => k_is); (case l2 => k_is); (case c2 => k_is); (case k2 => k_is)
    (case a3 => k_is); (case l3 => k_is); (case c3 => k_is); (case k3 => k_is); (case a4 => k_is); (case l4 => k_is); (case c4 => k_is); (case k4 => k_is)
    (case a5 => k_is); (case l5 => k_is); (case c5 => k_is); (case k5 => k_is); (case a6 => k_is); (case l6 => k_is); (case c6 => k_is); (case k6 => k_is)
    (case a7 => k_is); (case l7 => k_is); (case c7 => k_is); (case k7 => k_is); (case a8 => k_is); (case l8 => k_is); (case c8 => k_is); (case k8 => k_is)
    (case a9 => k_is); (case l9 => k_is); (case c9 => k_is); (case k9 => k_is); (case a10 => k_is); (case l10 => k_is); (case c10 => k_is); (case k10 => k_is)
    (case a11 => k_is); (case l11 => k_is); (case c11 => k_is); (case k11 => k_is); (case a12 => k_is); (case l12 => k_is); (case c12 => k_is); (case k12 => k_is)
    (case a13 => k_is); (case l13 => k_is); (case c13 => k_is); (case k13 => k_is); (case a14 => k_is); (case l14 => k_is); (case c14 => k_is); (case k14 => k_is)
    (case a15 => k_is); (case l15 => k_is); (case c15 => k_is); (case k15 => k_is); (case a16 => k_is); (case l16 => k_is); (case c16 => k_is); (case k16 => k_is)
    (case a17 => k_is); (case l17 => k_is); (case c17 => k_is); (case k17 => k_is); (case a18 => k_is); (case l18 => k_is); (case c18 => k_is); (case k18 => k_is)
    (case a19 => k_is); (case l19 => k_is); (case c19 => k_is); (case k19 => k_is); (case a20 => k_is); (case l20 => k_is); (case c20 => k_is); (case k20 => k_is)
    (case a21 => k_is); (case l21 => k_is); (case c21 => k_is); (case k21 => k_is); (case a22 => k_is); (case l22 => k_is); (case c22 => k_is); (case k22 => k_is)
    (case a23 => k_is); (case l23 => k_is); (case c23 => k_is); (case k23 => k_is); (case z0 => k_is); (case z1 => k_is); (case z2 => k_is); (case z3 => k_is)
    (case z4 => k_is); (case z5 => k_is); (case z6 => k_is); (case z7 => k_is); (case z8 => k_is); (case z9 => k_is); (case z10 => k_is); (case z11 => k_is)
    (case z12 => k_is); (case z13 => k_is); (case z14 => k_is); (case z15 => k_is); (case y0 => k_is); (case y1 => k_is); (case y2 => k_is); (case y3 => k_is)
    (case y4 => k_is); (case y5 => k_is); (case ea0 => k_is); (case ek0 => k_is); (case eb0 => k_is); (case et0 => k_is); (case ei0 => k_is); (case ea1 => k_is)
    (case ek1 => k_is); (case eb1 => k_is); (case et1 => k_is); (case ei1 => k_is); (case ea2 => k_is); (case ek2 => k_is); (case eb2 => k_is); (case et2 => k_is)
    (case ei2 => k_is); (case ea3 => k_is); (case ek3 => k_is); (case eb3 => k_is); (case et3 => k_is); (case ei3 => k_is); (case ea4 => k_is); (case ek4 => k_is)
    (case eb4 => k_is); (case et4 => k_is); (case ei4 => k_is); (case ea5 => k_is); (case ek5 => k_is); (case eb5 => k_is); (case et5 => k_is); (case ei5 => k_is)
    (case ea6 => k_is); (case ek6 => k_is); (case eb6 => k_is); (case et6 => k_is); (case ei6 => k_is); (case ea7 => k_is); (case ek7 => k_is); (case eb7 => k_is)
    (case et7 => k_is); (case ei7 => k_is); (case ea8 => k_is); (case ek8 => k_is); (case eb8 => k_is); (case et8 => k_is); (case ei8 => k_is); (case ea9 => k_is)
    (case ex9 => k_exc); (case ek9 => k_is); (case eb9 => k_is); (case et9 => k_is); (case ei9 => k_is); (case ea10 => k_is); (case ek10 => k_is); (case eb10 => k_is)
    (case et10 => k_is); (case ei10 => k_is); (case ea11 => k_is); (case ek11 => k_is); (case eb11 => k_is); (case et11 => k_is); (case ei11 => k_is); (case ea12 => k_is)
    (case ek12 => k_is); (case eb12 => k_is); (case et12 => k_is); (case ei12 => k_is); (case ea13 => k_is); (case ek13 => k_is); (case eb13 => k_is); (case et13 => k_is)
    (case ei13 => k_is); (case en0 => k_is); (case eo0 => k_is); (case eg9 => k_is); (case eh9 => k_is); (case ed9 => k_is); (case el9 => k_is); (case em9 => k_is)
    (case ev9 => k_is); (case ooN0 => decide); (case et90 => k_is); (case ooN1 => decide); (case et91 => k_is); (case ooN2 => decide); (case et92 => k_is); (case ooN3 => decide)
    (case et93 => k_is); (case ooN4 => decide); (case et94 => k_is); (case ooN5 => decide); (case et95 => k_is); (case ooN6 => decide); (case et96 => k_is); (case ooN7 => decide)
    (case et97 => k_is); (case ooN8 => decide); (case et98 => k_is); (case ooN10 => decide); (case et910 => k_is); (case ooN11 => decide); (case et911 => k_is); (case ooN12 => decide)
    (case et912 => k_is); (case es0 => k_is)
