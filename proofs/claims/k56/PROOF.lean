import PyProof.Rows.All
import Wide.All
import OpenK.AllK
import Wide.FinOn
import HandS.ForMost
import HandS.IsInst
import HandS.Flow
import HandS.Style
import HandS.TupAny
import HandS.Codes
import HandS.Wide
import HandS.Deep
import HandS.Zip
import HandS.Exc
import HandS.ExcOwn
import HandS.TryMany
import HandS.WordsExc
import HandS.Dict
import HandS.Words
import HandS.Text
import HandS.More
import PyProof.ListStr
import KE.DatumOrd
import HandS.List
import HandS.Replace
import PyProof.Rows.StrRev
import PyProof.Rows.StrTemp
import PyProof.SliceStr2
import HandS.Ends
import HandS.RaiseMore
import PyProof.ReprRoads
import PyProof.ReprLen
import PyProof.StrLawsRepr
import PyProof.CallFns
import PyProof.StrOps2
import KE.GoesEnum
import KE.GoesNew
import HandS.Iter
import PyProof.SumAny
import PyProof.Rows.SumGenD
import PyProof.TwoTypesSub
import HandS.Strs
import PyProof.StrWalks
import HandS.Proxy
import PyProof.NeKinds
import KE.KDictDisplayH
import PyProof.TupleOfStr
import PyProof.Rows.SortShellAny
import HandS.Conv
import HandS.TupMul
import HandS.DictComp
import HandS.DeepEq
import PySem.Challenge.RW_wordrules_k56_rule_texts
set_option Elab.async false
set_option linter.all false
set_option maxRecDepth 100000
set_option maxHeartbeats 4000000
/-! The A-layer: data as trees, what is mutated as cells; each reading of the hand layer has an abstract program that it follows. -/
namespace AL
open PySem PySem.Spec L2

inductive D where
  | non | bl (b : Bool) | int (i : Int) | str (x : Str) | lst (xs : List D) | tup (xs : List D) | dk (kvs : List (Key × D)) | scr (ns : List Int) | ce (a : Addr)
  deriving Inhabited
inductive Cell where
  | lst (xs : List D) | dk (kvs : List (Key × D)) | dt (kvs : List (List Key × D))
abbrev AH := Addr → Option Cell
def put (C : AH) (a : Addr) (c : Cell) : AH := fun b => if b = a then some c else C b
def del (C : AH) (a : Addr) : AH := fun b => if b = a then none else C b
@[simp] theorem put_same {C : AH} {a : Addr} {c : Cell} : put C a c a = some c := by unfold put; rw [if_pos rfl]
theorem put_ne {C : AH} {a b : Addr} {c : Cell} (h : b ≠ a) : put C a c b = C b := by unfold put; rw [if_neg h]
@[simp] theorem put_put {C : AH} {a : Addr} {c d : Cell} : put (put C a c) a d = put C a d := by
  funext b; unfold put; split <;> rfl

/-! ### heaps that grow -/
def Ex (H H' : Hp) : Prop := ∀ a o, H a = some o → H' a = some o
theorem Ex.refl (H : Hp) : Ex H H := fun _ _ h => h
theorem Ex.trans {H H1 H2 : Hp} (a : Ex H H1) (b : Ex H1 H2) : Ex H H2 := fun x o h => b x o (a x o h)
theorem Ex.new {H : Hp} {p : Addr} {o : HO} (h : H p = none) : Ex H (upd H p o) := fun a u e => by
  rw [upd_ne (ne_of_none e h)]
  exact e
theorem Ex.l {K : PySem.W.Frag} {H H' : Hp} {a : Addr} {xs : List V} (e : Ex H H') (h : SqL K H a xs) : SqL K H' a xs := by
  rcases h with (h | ⟨o, h⟩) | h
  · exact Or.inl (Or.inl (e a _ h))
  · exact Or.inl (Or.inr ⟨o, e a _ h⟩)
  · exact Or.inr h
theorem Ex.back {H H' : Hp} {p : Addr} (e : Ex H H') (h : H' p = none) : H p = none := by
  cases h1 : H p with
  | none => rfl
  | some o => rw [e p o h1] at h; cases h

/-! ### trees in a heap -/
mutual
inductive Rep (K : PySem.W.Frag) (F : Hp) : V → D → Prop
  | non : Rep K F .non .non
  | bl (b : Bool) : Rep K F (.bl b) (.bl b)
  | int (i : Int) : Rep K F (.int i) (.int i)
  | str (x : Str) : Rep K F (.str x) (.str x)
  | lst {a : Addr} {xs : List V} {ds : List D} : F a = some (.lst xs) → RepL K F xs ds → Rep K F (.ref a) (.lst ds)
  | tup {a : Addr} {xs : List V} {ds : List D} : F a = some (.tup xs) → RepL K F xs ds → Rep K F (.ref a) (.tup ds)
  | dk {a : Addr} {kvs : List (Key × V)} {es : List (Key × D)} : F a = some (.dK kvs) → RepK K F kvs es → Rep K F (.ref a) (.dk es)
  | scr {a : Addr} {ns : List Int} : SqL K F a (ns.map V.int) → Rep K F (.ref a) (.scr ns)
  | ce (a : Addr) : Rep K F (.ref a) (.ce a)
inductive RepL (K : PySem.W.Frag) (F : Hp) : List V → List D → Prop
  | nil : RepL K F [] []
  | cons {v : V} {vs : List V} {d : D} {ds : List D} : Rep K F v d → RepL K F vs ds → RepL K F (v :: vs) (d :: ds)
inductive RepK (K : PySem.W.Frag) (F : Hp) : List (Key × V) → List (Key × D) → Prop
  | nil : RepK K F [] []
  | cons {k : Key} {v : V} {vs : List (Key × V)} {d : D} {ds : List (Key × D)} : Rep K F v d → RepK K F vs ds → RepK K F ((k, v) :: vs) ((k, d) :: ds)
end
mutual
theorem Rep.mono {K : PySem.W.Frag} {F F' : Hp} (e : Ex F F') : ∀ {v : V} {d : D}, Rep K F v d → Rep K F' v d
  | _, _, .non => .non
  | _, _, .bl b => .bl b
  | _, _, .int i => .int i
  | _, _, .str x => .str x
  | _, _, .lst h r => .lst (e _ _ h) (RepL.mono e r)
  | _, _, .tup h r => .tup (e _ _ h) (RepL.mono e r)
  | _, _, .dk h r => .dk (e _ _ h) (RepK.mono e r)
  | _, _, .scr h => .scr (e.l h)
  | _, _, .ce a => .ce a
theorem RepL.mono {K : PySem.W.Frag} {F F' : Hp} (e : Ex F F') : ∀ {vs : List V} {ds : List D}, RepL K F vs ds → RepL K F' vs ds
  | _, _, .nil => .nil
  | _, _, .cons r t => .cons (Rep.mono e r) (RepL.mono e t)
theorem RepK.mono {K : PySem.W.Frag} {F F' : Hp} (e : Ex F F') : ∀ {vs : List (Key × V)} {ds : List (Key × D)}, RepK K F vs ds → RepK K F' vs ds
  | _, _, .nil => .nil
  | _, _, .cons r t => .cons (Rep.mono e r) (RepK.mono e t)
end
section
variable {K : PySem.W.Frag} {F F' : Hp}
theorem RepL.length : ∀ {vs : List V} {ds : List D}, RepL K F vs ds → vs.length = ds.length
  | _, _, .nil => rfl
  | _, _, .cons _ t => by rw [List.length_cons, List.length_cons, RepL.length t]
theorem RepL.get : ∀ {vs : List V} {ds : List D} {i : Nat} {v : V}, RepL K F vs ds → vs[i]? = some v → ∃ d, ds[i]? = some d ∧ Rep K F v d
  | _, _, _, _, .nil, e => by simp at e
  | _, _, 0, _, .cons r _, e => by simp at e; subst e; exact ⟨_, rfl, r⟩
  | _, _, i + 1, v, .cons _ t, e => by
    obtain ⟨u, h1, h2⟩ := RepL.get (i := i) (v := v) t (by simpa using e)
    exact ⟨u, by simpa using h1, h2⟩
theorem RepL.getD : ∀ {vs : List V} {ds : List D} {i : Nat} {d : D}, RepL K F vs ds → ds[i]? = some d → ∃ v, vs[i]? = some v ∧ Rep K F v d
  | _, _, _, _, .nil, e => by simp at e
  | _, _, 0, _, .cons r _, e => by simp at e; subst e; exact ⟨_, rfl, r⟩
  | _, _, i + 1, v, .cons _ t, e => by
    obtain ⟨u, h1, h2⟩ := RepL.getD (i := i) (d := v) t (by simpa using e)
    exact ⟨u, by simpa using h1, h2⟩
theorem RepL.set {x : V} {u : D} (r : Rep K F x u) : ∀ {xs : List V} {us : List D} (i : Nat), RepL K F xs us → RepL K F (xs.set i x) (us.set i u)
  | _, _, _, .nil => .nil
  | _, _, 0, .cons _ t => .cons r t
  | _, _, i + 1, .cons q t => .cons q (RepL.set r i t)
theorem RepL.append : ∀ {xs ys : List V} {us ws : List D}, RepL K F xs us → RepL K F ys ws → RepL K F (xs ++ ys) (us ++ ws)
  | _, _, _, _, .nil, s => s
  | _, _, _, _, .cons r t, s => .cons r (RepL.append t s)
theorem RepL.take : ∀ {xs : List V} {us : List D} (n : Nat), RepL K F xs us → RepL K F (xs.take n) (us.take n)
  | _, _, 0, _ => .nil
  | _, _, _ + 1, .nil => .nil
  | _, _, n + 1, .cons r t => .cons r (RepL.take n t)
theorem RepL.drop : ∀ {xs : List V} {us : List D} (n : Nat), RepL K F xs us → RepL K F (xs.drop n) (us.drop n)
  | _, _, 0, r => r
  | _, _, _ + 1, .nil => .nil
  | _, _, n + 1, .cons _ t => RepL.drop n t
theorem RepL.reverse : ∀ {xs : List V} {us : List D}, RepL K F xs us → RepL K F xs.reverse us.reverse
  | _, _, .nil => .nil
  | _, _, .cons r t => by
    rw [List.reverse_cons, List.reverse_cons]
    exact RepL.append (RepL.reverse t) (.cons r .nil)
theorem RepL.dropLast {xs : List V} {us : List D} (h : RepL K F xs us) : RepL K F xs.dropLast us.dropLast := by
  rw [List.dropLast_eq_take, List.dropLast_eq_take, h.length]
  exact h.take _
theorem RepL.erase : ∀ {xs : List V} {us : List D} (i : Nat), RepL K F xs us → RepL K F (xs.eraseIdx i) (us.eraseIdx i)
  | _, _, _, .nil => .nil
  | _, _, 0, .cons _ t => t
  | _, _, i + 1, .cons q t => .cons q (RepL.erase i t)
theorem RepL.ints : ∀ ns : List Int, RepL K F (ns.map V.int) (ns.map D.int)
  | [] => .nil
  | n :: ns => .cons (.int n) (RepL.ints ns)
theorem RepL.strs : ∀ ns : List Str, RepL K F (ns.map V.str) (ns.map D.str)
  | [] => .nil
  | n :: ns => .cons (.str n) (RepL.strs ns)
theorem RepL.ofInts : ∀ {xs : List V} {ns : List Int}, RepL K F xs (ns.map D.int) → xs = ns.map V.int
  | _, [], .nil => rfl
  | _, n :: ns, .cons (.int _) t => by rw [List.map_cons, RepL.ofInts t]
theorem RepL.ofStrs : ∀ {xs : List V} {ns : List Str}, RepL K F xs (ns.map D.str) → xs = ns.map V.str
  | _, [], .nil => rfl
  | _, n :: ns, .cons (.str _) t => by rw [List.map_cons, RepL.ofStrs t]
theorem RepL.ofBls : ∀ {xs : List V} {ns : List Bool}, RepL K F xs (ns.map D.bl) → xs = ns.map V.bl
  | _, [], .nil => rfl
  | _, n :: ns, .cons (.bl _) t => by rw [List.map_cons, RepL.ofBls t]
end

/-- entries whose keys are tuples -/
inductive RepT (K : PySem.W.Frag) (F : Hp) : List (List Key × V) → List (List Key × D) → Prop
  | nil : RepT K F [] []
  | cons {k : List Key} {v : V} {vs : List (List Key × V)} {d : D} {ds : List (List Key × D)} : Rep K F v d → RepT K F vs ds → RepT K F ((k, v) :: vs) ((k, d) :: ds)
theorem RepT.mono {K : PySem.W.Frag} {F F' : Hp} (e : Ex F F') : ∀ {vs : List (List Key × V)} {ds : List (List Key × D)}, RepT K F vs ds → RepT K F' vs ds
  | _, _, .nil => .nil
  | _, _, .cons r t => .cons (r.mono e) (t.mono e)
/-- what a cell holds -/
inductive CellC (K : PySem.W.Frag) (F : Hp) : HO → Cell → Prop
  | lst {xs : List V} {ds : List D} : RepL K F xs ds → CellC K F (.lst xs) (.lst ds)
  | dk {kvs : List (Key × V)} {es : List (Key × D)} : RepK K F kvs es → CellC K F (.dK kvs) (.dk es)
  | dt {kvs : List (List Key × V)} {es : List (List Key × D)} : RepT K F kvs es → CellC K F (.dT kvs) (.dt es)
theorem CellC.mono {K : PySem.W.Frag} {F F' : Hp} (e : Ex F F') {o : HO} {c : Cell} : CellC K F o c → CellC K F' o c
  | .lst r => .lst (r.mono e)
  | .dk r => .dk (r.mono e)
  | .dt r => .dt (r.mono e)
/-- what was known, and kept aside, where the def, or the try, was entered -/
structure Bs where
  F0 : Hp
  R0 : Hp
/-- the empty ground -/
def Bs.nil : Bs := ⟨fun _ => none, fun _ => none⟩
/-- F: what is known for good; C: the cells; R: what is kept aside -/
structure Sat (B : Bs) (K : PySem.W.Frag) (F : Hp) (C : AH) (R H : Hp) : Prop where
  bF : Ex B.F0 F
  bR : Ex B.R0 R
  ex : Ex F H
  cell : ∀ p c, C p = some c → F p = none ∧ ∃ o, H p = some o ∧ CellC K F o c
  priv : ∀ p o, R p = some o → F p = none ∧ C p = none ∧ H p = some o
section
variable {B : Bs} {K : PySem.W.Frag} {F F' : Hp} {C : AH} {R H : Hp} {p : Addr}
theorem Sat.rebase {B' : Bs} (S : Sat B K F C R H) (h1 : Ex B'.F0 F) (h2 : Ex B'.R0 R) : Sat B' K F C R H := ⟨h1, h2, S.ex, S.cell, S.priv⟩
theorem Sat.nil (S : Sat B K F C R H) : Sat Bs.nil K F C R H := S.rebase (fun _ _ e => by cases e) (fun _ _ e => by cases e)
/-- back behind a call -/
theorem Sat.back {C0 : AH} {H0 : Hp} {F1 : Hp} {C1 : AH} {H1 : Hp} (S : Sat B K F C0 R H0) (e : Ex F F1) (S1 : Sat Bs.nil K F1 C1 R H1) : Sat B K F1 C1 R H1 := S1.rebase (S.bF.trans e) S.bR
theorem Sat.freeB (S : Sat B K F C R H) (h : R p = none) : B.R0 p = none := S.bR.back h
theorem Sat.freeF (S : Sat B K F C R H) (h : H p = none) : F p = none := S.ex.back h
theorem Sat.freeC (S : Sat B K F C R H) (h : H p = none) : C p = none := by
  cases q : C p with
  | none => rfl
  | some c => obtain ⟨_, o, e, _⟩ := S.cell p c q; rw [h] at e; cases e
theorem Sat.freeR (S : Sat B K F C R H) (h : H p = none) : R p = none := by
  cases q : R p with
  | none => rfl
  | some c => have e := (S.priv p c q).2.2; rw [h] at e; cases e
/-- a new object, known for good -/
theorem Sat.newF (S : Sat B K F C R H) (h : H p = none) (o : HO) : Sat B K (upd F p o) C R (upd H p o) := by
  have hF := S.freeF h
  refine ⟨S.bF.trans (Ex.new hF), S.bR, fun a u e => ?_, fun q c e => ?_, fun q u e => ?_⟩
  · by_cases ha : a = p
    · subst ha; rw [upd_same] at e ⊢; exact e
    · rw [upd_ne ha] at e ⊢; exact S.ex _ _ e
  · obtain ⟨h1, u, h2, h3⟩ := S.cell q c e
    have hq : q ≠ p := ne_of_none h2 h
    exact ⟨by rw [upd_ne hq]; exact h1, u, by rw [upd_ne hq]; exact h2, h3.mono (Ex.new hF)⟩
  · obtain ⟨h1, h2, h3⟩ := S.priv q u e
    have hq : q ≠ p := ne_of_none h3 h
    exact ⟨by rw [upd_ne hq]; exact h1, h2, by rw [upd_ne hq]; exact h3⟩
/-- a cell is made, or changed -/
theorem Sat.setC (S : Sat B K F C R H) (hF : F p = none) (hR : R p = none) {o : HO} {c : Cell} (h : CellC K F o c) : Sat B K F (put C p c) R (upd H p o) := by
  refine ⟨S.bF, S.bR, fun a u e => ?_, fun q d e => ?_, fun q u e => ?_⟩
  · rw [upd_ne (ne_of_none e hF)]; exact S.ex _ _ e
  · by_cases hq : q = p
    · subst hq; rw [put_same] at e; cases e; exact ⟨hF, o, upd_same, h⟩
    · rw [put_ne hq] at e
      obtain ⟨h1, u, h2, h3⟩ := S.cell q d e
      exact ⟨h1, u, by rw [upd_ne hq]; exact h2, h3⟩
  · have hq : q ≠ p := ne_of_none e hR
    obtain ⟨h1, h2, h3⟩ := S.priv q u e
    exact ⟨h1, by rw [put_ne hq]; exact h2, by rw [upd_ne hq]; exact h3⟩
theorem Sat.newC (S : Sat B K F C R H) (h : H p = none) {o : HO} {c : Cell} (hc : CellC K F o c) : Sat B K F (put C p c) R (upd H p o) := S.setC (S.freeF h) (S.freeR h) hc
theorem Sat.mutC (S : Sat B K F C R H) {c0 : Cell} (h : C p = some c0) {o : HO} {c : Cell} (hc : CellC K F o c) : Sat B K F (put C p c) R (upd H p o) := by
  refine S.setC (S.cell p c0 h).1 ?_ hc
  cases q : R p with
  | none => rfl
  | some u => have e := (S.priv p u q).2.1; rw [h] at e; cases e
/-- kept aside -/
theorem Sat.setR (S : Sat B K F C R H) (hF : F p = none) (hC : C p = none) (hB : B.R0 p = none) (o : HO) : Sat B K F C (upd R p o) (upd H p o) := by
  refine ⟨S.bF, fun q u e => by rw [upd_ne (ne_of_none e hB)]; exact S.bR q u e, fun a u e => ?_, fun q d e => ?_, fun q u e => ?_⟩
  · rw [upd_ne (ne_of_none e hF)]; exact S.ex _ _ e
  · have hq : q ≠ p := fun z => by rw [z, hC] at e; cases e
    obtain ⟨h1, u, h2, h3⟩ := S.cell q d e
    exact ⟨h1, u, by rw [upd_ne hq]; exact h2, h3⟩
  · by_cases hq : q = p
    · subst hq; rw [upd_same] at e; cases e; exact ⟨hF, hC, upd_same⟩
    · rw [upd_ne hq] at e
      obtain ⟨h1, h2, h3⟩ := S.priv q u e
      exact ⟨h1, h2, by rw [upd_ne hq]; exact h3⟩
/-- what was kept aside is known for good, is a cell -/
theorem Sat.outF (S : Sat B K F C (upd R p o) H) (hR : R p = none) (hB : B.R0 p = none) : Sat B K (upd F p o) C R H := by
  obtain ⟨f, c, h⟩ := S.priv p o upd_same
  refine ⟨S.bF.trans (Ex.new f), fun q u e => by have := S.bR q u e; rwa [upd_ne (ne_of_none e hB)] at this, fun a u e => ?_, fun q d e => ?_, fun q u e => ?_⟩
  · by_cases ha : a = p
    · subst ha; rw [upd_same] at e; cases e; exact h
    · rw [upd_ne ha] at e; exact S.ex _ _ e
  · have hq : q ≠ p := fun z => by rw [z, c] at e; cases e
    obtain ⟨h1, u, h2, h3⟩ := S.cell q d e
    exact ⟨by rw [upd_ne hq]; exact h1, u, h2, h3.mono (Ex.new f)⟩
  · have hq : q ≠ p := ne_of_none e hR
    obtain ⟨h1, h2, h3⟩ := S.priv q u (by rw [upd_ne hq]; exact e)
    exact ⟨by rw [upd_ne hq]; exact h1, h2, h3⟩
theorem Sat.outC {o : HO} {c : Cell} (S : Sat B K F C (upd R p o) H) (hR : R p = none) (hB : B.R0 p = none) (hc : CellC K F o c) : Sat B K F (put C p c) R H := by
  obtain ⟨f, c0, h⟩ := S.priv p o upd_same
  refine ⟨S.bF, fun q u e => by have := S.bR q u e; rwa [upd_ne (ne_of_none e hB)] at this, S.ex, fun q d e => ?_, fun q u e => ?_⟩
  · by_cases hq : q = p
    · subst hq; rw [put_same] at e; cases e; exact ⟨f, o, h, hc⟩
    · rw [put_ne hq] at e; exact S.cell q d e
  · have hq : q ≠ p := ne_of_none e hR
    obtain ⟨h1, h2, h3⟩ := S.priv q u (by rw [upd_ne hq]; exact e)
    exact ⟨h1, by rw [put_ne hq]; exact h2, h3⟩
/-- a cell is changed no more -/
theorem Sat.freeze {o : HO} {c : Cell} (S : Sat B K F C R H) (h : C p = some c) (hH : H p = some o) : Sat B K (upd F p o) (del C p) R H := by
  obtain ⟨f, _, _⟩ := S.cell p c h
  refine ⟨S.bF.trans (Ex.new f), S.bR, fun a u e => ?_, fun q d e => ?_, fun q u e => ?_⟩
  · by_cases ha : a = p
    · subst ha; rw [upd_same] at e; cases e; exact hH
    · rw [upd_ne ha] at e; exact S.ex _ _ e
  · by_cases hq : q = p
    · subst hq; unfold del at e; rw [if_pos rfl] at e; cases e
    · unfold del at e; rw [if_neg hq] at e
      obtain ⟨h1, u, h2, h3⟩ := S.cell q d e
      exact ⟨by rw [upd_ne hq]; exact h1, u, h2, h3.mono (Ex.new f)⟩
  · obtain ⟨h1, h2, h3⟩ := S.priv q u e
    have hq : q ≠ p := fun z => by rw [z, h] at h2; cases h2
    refine ⟨by rw [upd_ne hq]; exact h1, ?_, h3⟩
    unfold del; rw [if_neg hq]; exact h2
end

/-! ### slots -/
abbrev ASt := List (Option D)
structure Slo (K : PySem.W.Frag) (F : Hp) (s : ASt) (σ : St) : Prop where
  len : s.length = σ.length
  at' : ∀ (i : Nat) (d : D), s[i]? = some (some d) → ∃ v, σ[i]? = some (some v) ∧ Rep K F v d
section
variable {K : PySem.W.Frag} {F F' : Hp} {s : ASt} {σ : St}
theorem Slo.mono (r : Slo K F s σ) (e : Ex F F') : Slo K F' s σ := ⟨r.len, fun i d h => let ⟨v, a, b⟩ := r.at' i d h; ⟨v, a, b.mono e⟩⟩
theorem Slo.set (r : Slo K F s σ) {v : V} {d : D} (h : Rep K F v d) (i : Nat) : Slo K F (s.set i (some d)) (σ.set i (some v)) := by
  refine ⟨by rw [List.length_set, List.length_set, r.len], fun j e q => ?_⟩
  by_cases hj : i = j
  · subst hj
    by_cases hi : i < s.length
    · rw [List.getElem?_set_self hi] at q
      cases q
      exact ⟨v, List.getElem?_set_self (by rw [← r.len]; exact hi), h⟩
    · rw [List.getElem?_eq_none (by simpa using hi)] at q; cases q
  · rw [List.getElem?_set_ne hj] at q ⊢
    exact r.at' j e q
theorem Slo.forget (r : Slo K F s σ) (i : Nat) : Slo K F (s.set i none) (σ.set i none) := by
  refine ⟨by rw [List.length_set, List.length_set, r.len], fun j e q => ?_⟩
  by_cases hj : i = j
  · subst hj
    by_cases hi : i < s.length
    · rw [List.getElem?_set_self hi] at q; cases q
    · rw [List.getElem?_eq_none (by simpa using hi)] at q; cases q
  · rw [List.getElem?_set_ne hj] at q ⊢
    exact r.at' j e q
/-- only the abstract slot changes -/
theorem Slo.reset (r : Slo K F s σ) {i : Nat} {d0 d : D} (h0 : s[i]? = some (some d0)) (h : ∀ v, Rep K F v d0 → Rep K F v d) : Slo K F (s.set i (some d)) σ := by
  refine ⟨by rw [List.length_set, r.len], fun j e q => ?_⟩
  by_cases hj : i = j
  · subst hj
    have hi : i < s.length := (List.getElem?_eq_some_iff.mp h0).1
    rw [List.getElem?_set_self hi] at q
    cases q
    obtain ⟨v, h1, h2⟩ := r.at' i d0 h0
    exact ⟨v, h1, h v h2⟩
  · rw [List.getElem?_set_ne hj] at q
    exact r.at' j e q
def wipeA (s : ASt) : List Nat → ASt
  | [] => s
  | v :: vs => (wipeA s vs).set v none
theorem Slo.wipe (r : Slo K F s σ) : ∀ vs : List Nat, Slo K F (wipeA s vs) (L2.wipe σ vs)
  | [] => r
  | v :: vs => (Slo.wipe r vs).forget v
theorem Slo.start {vs : List V} {ds : List D} (h : RepL K F vs ds) (n : Nat) : Slo K F (ds.map some ++ List.replicate (n - ds.length) none) (vs.map some ++ List.replicate (n - vs.length) none) := by
  have e := h.length
  refine ⟨by simp [e], fun i d q => ?_⟩
  by_cases hi : i < ds.length
  · rw [List.getElem?_append_left (by simpa using hi), List.getElem?_map] at q
    rw [List.getElem?_append_left (by simpa [e] using hi), List.getElem?_map]
    cases z : ds[i]? with
    | none => rw [z] at q; cases q
    | some d' =>
      rw [z] at q
      cases q
      obtain ⟨v, h1, h2⟩ := h.getD z
      exact ⟨v, by rw [h1]; rfl, h2⟩
  · rw [List.getElem?_append_right (by simpa using hi), List.getElem?_replicate] at q
    split at q <;> cases q
end
end AL

namespace AL
open PySem PySem.Spec L2
variable {B : Bs}

/-! ### abstract programs -/
abbrev AE' := ASt → AH → (D → AH → Prop) → Prop
abbrev AT' := ASt → AH → (Bool → AH → Prop) → Prop
abbrev AA' := ASt → AH → (List D → AH → Prop) → Prop
structure AEnds where
  nx : ASt → AH → Prop
  rt : D → AH → Prop
  bk : ASt → AH → Prop := fun _ _ => False
  ct : ASt → AH → Prop := fun _ _ => False
abbrev AS' := AEnds → ASt → AH → Prop
abbrev AG' := D → ASt → AH → (ASt → AH → Prop) → Prop
/-- what is walked: the items, what must stay so, the cells -/
abbrev AI' := ASt → AH → (List D → (AH → Prop) → AH → Prop) → Prop
abbrev ASp := List D → AH → (D → AH → Prop) → Prop

section
variable (B : Bs) (K : PySem.W.Frag)
def SimE (te : TE) (a : AE') : Prop := ∀ (σ : L2.St) (s : ASt) (F : Hp) (C : AH) (R H : Hp) (Q : VK) (P : D → AH → Prop), Slo K F s σ → Sat B K F C R H → a s C P →
  (∀ d v F' C' H', Ex F F' → Sat B K F' C' R H' → Rep K F' v d → P d C' → Q v H') → te σ H Q
def SimT (tt : TT) (a : AT') : Prop := ∀ (σ : L2.St) (s : ASt) (F : Hp) (C : AH) (R H : Hp) (Q : Bool → Hp → Prop) (P : Bool → AH → Prop), Slo K F s σ → Sat B K F C R H → a s C P →
  (∀ b F' C' H', Ex F F' → Sat B K F' C' R H' → P b C' → Q b H') → tt σ H Q
def SimA (n : Nat) (ta : TA) (a : AA') : Prop := ∀ (σ : L2.St) (s : ASt) (F : Hp) (C : AH) (R H : Hp) (Q : List V → Hp → Prop) (P : List D → AH → Prop), Slo K F s σ → Sat B K F C R H → a s C P →
  (∀ ds vs F' C' H', Ex F F' → Sat B K F' C' R H' → RepL K F' vs ds → ds.length = n → P ds C' → Q vs H') → ta σ H Q
structure EndsR (F R : Hp) (E : AEnds) (D' : Ends) : Prop where
  nx : ∀ s σ F' C' H', Ex F F' → Slo K F' s σ → Sat B K F' C' R H' → E.nx s C' → D'.nx σ H'
  rt : ∀ d v F' C' H', Ex F F' → Rep K F' v d → Sat B K F' C' R H' → E.rt d C' → D'.rt v H'
  bk : ∀ s σ F' C' H', Ex F F' → Slo K F' s σ → Sat B K F' C' R H' → E.bk s C' → D'.bk σ H'
  ct : ∀ s σ F' C' H', Ex F F' → Slo K F' s σ → Sat B K F' C' R H' → E.ct s C' → D'.ct σ H'
def SimS (ts : TS) (a : AS') : Prop := ∀ (D' : Ends) (E : AEnds) (σ : L2.St) (s : ASt) (F : Hp) (C : AH) (R H : Hp), EndsR B K F R E D' → Slo K F s σ → Sat B K F C R H → a E s C → ts D' σ H
def SimG (g : TG) (a : AG') : Prop := ∀ (v : V) (d : D) (σ : L2.St) (s : ASt) (F : Hp) (C : AH) (R H : Hp) (Q : L2.St → Hp → Prop) (P : ASt → AH → Prop), Slo K F s σ → Sat B K F C R H → Rep K F v d → a d s C P →
  (∀ s' σ' F' C' H', Ex F F' → Slo K F' s' σ' → Sat B K F' C' R H' → P s' C' → Q σ' H') → g v σ H Q
/-- an iterator walks the items -/
structure Walks (F : Hp) (items : List D) (hold : AH → Prop) (J : It) : Prop where
  stop : ∀ F' C' R' H', Ex F F' → Sat B K F' C' R' H' → hold C' → J.stop items.length H'
  go : ∀ F' C' R' H' i, Ex F F' → Sat B K F' C' R' H' → hold C' → i < items.length → J.go i H'
  yld : ∀ F' C' R' H' i x H'', Ex F F' → Sat B K F' C' R' H' → hold C' → i < items.length → J.yld i H' x H'' → ∃ d F'', items[i]? = some d ∧ Ex F' F'' ∧ Sat B K F'' C' R' H'' ∧ Rep K F'' x d
def SimI (wi : TI) (a : AI') : Prop := ∀ (σ : L2.St) (s : ASt) (F : Hp) (C : AH) (R H : Hp) (Q : It → Hp → Prop) (P : List D → (AH → Prop) → AH → Prop), Slo K F s σ → Sat B K F C R H → a s C P →
  (∀ items hold J F' C' H', Ex F F' → Sat B K F' C' R H' → Walks B K F' items hold J → P items hold C' → Q J H') → wi σ H Q
def SimR2 (r : R2) (a : D → D → AH → (D → AH → Prop) → Prop) : Prop := ∀ (v w : V) (d e : D) (F : Hp) (C : AH) (R H : Hp) (Q : VK) (P : D → AH → Prop), Sat B K F C R H → Rep K F v d → Rep K F w e → a d e C P →
  (∀ d v F' C' H', Ex F F' → Sat B K F' C' R H' → Rep K F' v d → P d C' → Q v H') → r v w H Q
def SimR1 (r : V → Hp → VK → Prop) (a : D → AH → (D → AH → Prop) → Prop) : Prop := ∀ (v : V) (d : D) (F : Hp) (C : AH) (R H : Hp) (Q : VK) (P : D → AH → Prop), Sat B K F C R H → Rep K F v d → a d C P →
  (∀ d v F' C' H', Ex F F' → Sat B K F' C' R H' → Rep K F' v d → P d C' → Q v H') → r v H Q
def SimRL (r : List V → Hp → VK → Prop) (a : ASp) : Prop := ∀ (vs : List V) (ds : List D) (F : Hp) (C : AH) (R H : Hp) (Q : VK) (P : D → AH → Prop), Sat B K F C R H → RepL K F vs ds → a ds C P →
  (∀ d v F' C' H', Ex F F' → Sat B K F' C' R H' → Rep K F' v d → P d C' → Q v H') → r vs H Q
def SimRM (r : V → List V → Hp → VK → Prop) (a : D → ASp) : Prop := ∀ (v : V) (d : D) (vs : List V) (ds : List D) (F : Hp) (C : AH) (R H : Hp) (Q : VK) (P : D → AH → Prop), Sat B K F C R H → Rep K F v d → RepL K F vs ds → a d ds C P →
  (∀ d v F' C' H', Ex F F' → Sat B K F' C' R H' → Rep K F' v d → P d C' → Q v H') → r v vs H Q
end
structure AE (B : Bs) (X : Cx) (e : Expr) (te : TE) (a : AE') : Prop where
  pe : PE X e te
  sim : SimE B X.K te a
structure AT (B : Bs) (X : Cx) (e : Expr) (tt : TT) (a : AT') : Prop where
  pt : PT X e tt
  sim : SimT B X.K tt a
structure AW (B : Bs) (X : Cx) (e : Expr) (tt : TT) (a : AT') : Prop where
  pw : PW X e tt
  sim : SimT B X.K tt a
structure ATs (B : Bs) (X : Cx) (es : List Expr) (tt : TT) (a : AT') : Prop where
  pts : PTs X es tt
  sim : SimT B X.K tt a
structure AA (B : Bs) (X : Cx) (es : List Expr) (n : Nat) (ta : TA) (a : AA') : Prop where
  pa : PA X es ta
  sim : SimA B X.K n ta a
structure AS (B : Bs) (X : Cx) (st : Stmt) (ts : TS) (a : AS') : Prop where
  ps : PS X st ts
  sim : SimS B X.K ts a
structure ASs (B : Bs) (X : Cx) (st : List Stmt) (ts : TS) (a : AS') : Prop where
  ps : PSs X st ts
  sim : SimS B X.K ts a
/-- a target stores to the slots vs alone -/
def GIn (vs : List Nat) (g : TG) : Prop := ∀ x σ H (Q Q' : L2.St → Hp → Prop), g x σ H Q → (∀ σ2 H2, L2.wipe σ2 vs = L2.wipe σ vs → Q σ2 H2 → Q' σ2 H2) → g x σ H Q'
structure AG (B : Bs) (X : Cx) (e : Expr) (vs : List Nat) (g : TG) (a : AG') : Prop where
  pg : PG X e g
  sim : SimG B X.K g a
  inn : GIn vs g
structure AI (B : Bs) (X : Cx) (tg e : Expr) (wi : TI) (a : AI') : Prop where
  pi : PI X tg e wi
  sim : SimI B X.K wi a

/-! ### names, constants -/
def aVar (i : Nat) : AE' := fun s C P => match s[i]? with | some (some d) => P d C | _ => False
def aC (d : D) : AE' := fun _ C P => P d C
section
variable {X : Cx} {pos : Pos} {K : PySem.W.Frag}
theorem sim_var (i : Nat) : SimE B K (tVar i) (aVar i) := by
  intro σ s F C R H Q P hs hS h k
  unfold aVar at h
  split at h
  · rename_i d e
    obtain ⟨v, h1, h2⟩ := hs.at' i d e
    exact ⟨v, h1, k d v F C H (Ex.refl F) hS h2 h⟩
  · exact h.elim
theorem ae_v (i : Nat) {x : Str} (hN : X.N[i]? = some x := by rfl) (hv : Vis X.env.scope x := by first | exact Or.inl rfl | exact Or.inr (Or.inl rfl) | exact Or.inr (Or.inr rfl)) (hd : (x == ("__debug__" : Str)) = false := by decide)
    (hcd : (x == ("__classdict__" : Str)) = false := by decide) : AE B X (.Name x pos) (tVar i) (aVar i) := ⟨pe_var hN hv hd hcd, sim_var i⟩
theorem sim_c {v : V} {d : D} (h : ∀ F, Rep K F v d) : SimE B K (tC v) (aC d) := fun σ s F C R H Q P hs hS a k => k d v F C H (Ex.refl F) hS (h F) a
theorem ae_int {i j} : AE B X (.Constant (.int i) j pos) (tC (.int i)) (aC (.int i)) := ⟨pe_int, sim_c fun _ => .int i⟩
theorem ae_bl {b j} : AE B X (.Constant (.bool b) j pos) (tC (.bl b)) (aC (.bl b)) := ⟨pe_bl, sim_c fun _ => .bl b⟩
theorem ae_non {j} : AE B X (.Constant .none j pos) (tC .non) (aC .non) := ⟨pe_non, sim_c fun _ => .non⟩
theorem ae_str {x j} : AE B X (.Constant (.str x) j pos) (tC (.str x)) (aC (.str x)) := ⟨pe_str, sim_c fun _ => .str x⟩
theorem ae_gint {x : Str} {i : Int} (h : ∃ u, X.mg x = some u ∧ RelV (.int i) u) (hg : Gl X x := by rfl) (hd : (x == ("__debug__" : Str)) = false := by decide) : AE B X (.Name x pos) (tC (.int i)) (aC (.int i)) :=
  let ⟨_, h1, h2⟩ := h
  ⟨pe_glob hg h1 h2 hd, sim_c fun _ => .int i⟩

/-! ### operators -/
def aOp (r : D → D → AH → (D → AH → Prop) → Prop) (a b : AE') : AE' := fun s C P => a s C fun x C1 => b s C1 fun y C2 => r x y C2 P
def aUn (r : D → AH → (D → AH → Prop) → Prop) (a : AE') : AE' := fun s C P => a s C fun x C1 => r x C1 P
theorem sim_op {r : R2} {ar} {ta tb : TE} {a b : AE'} (hr : SimR2 B K r ar) (ha : SimE B K ta a) (hb : SimE B K tb b) : SimE B K (tOp r ta tb) (aOp ar a b) := by
  intro σ s F C R H Q P hs hS h k
  refine ha σ s F C R H _ _ hs hS h fun x v F1 C1 H1 e1 S1 r1 h1 => ?_
  refine hb σ s F1 C1 R H1 _ _ (hs.mono e1) S1 h1 fun y w F2 C2 H2 e2 S2 r2 h2 => ?_
  exact hr v w x y F2 C2 R H2 Q P S2 (r1.mono e2) r2 h2 fun d u F3 C3 H3 e3 S3 r3 h3 => k d u F3 C3 H3 ((e1.trans e2).trans e3) S3 r3 h3
theorem sim_un {r : V → Hp → VK → Prop} {ar} {ta : TE} {a : AE'} (hr : SimR1 B K r ar) (ha : SimE B K ta a) : SimE B K (tUn r ta) (aUn ar a) := by
  intro σ s F C R H Q P hs hS h k
  refine ha σ s F C R H _ _ hs hS h fun x v F1 C1 H1 e1 S1 r1 h1 => ?_
  exact hr v x F1 C1 R H1 Q P S1 r1 h1 fun d u F3 C3 H3 e3 S3 r3 h3 => k d u F3 C3 H3 (e1.trans e3) S3 r3 h3
/-- an operation f by values -/
structure AOp (B : Bs) (X : Cx) (f : Value → Value → Sem Value) (r : R2) (a : D → D → AH → (D → AH → Prop) → Prop) : Prop where
  op : OpR X f r
  sim : SimR2 B X.K r a
theorem ae_op {o : Operator} {r ar} {a b : Expr} {ta tb : TE} {aa ab : AE'} (ho : AOp B X (binaryOp o) r ar) (ha : AE B X a ta aa) (hb : AE B X b tb ab) : AE B X (.BinOp a o b pos) (tOp r ta tb) (aOp ar aa ab) := ⟨pe_op ho.op ha.pe hb.pe, sim_op ho.sim ha.sim hb.sim⟩
theorem ae_cmp {o : CmpOp} {r ar} {a b : Expr} {ta tb : TE} {aa ab : AE'} (ho : AOp B X (compareOp o) r ar) (ha : AE B X a ta aa) (hb : AE B X b tb ab) (hm : behindInMarks o b = false := by first | exact nomark _ | with_unfolding_all rfl) : AE B X (.Compare a [o] [b] pos) (tOp r ta tb) (aOp ar aa ab) :=
  ⟨pe_cmpR ho.op ha.pe hb.pe hm, sim_op ho.sim ha.sim hb.sim⟩
theorem SimR2.or {r r' : R2} {ar ar'} (h : SimR2 B K r ar) (h' : SimR2 B K r' ar') : SimR2 B K (fun x y H Q => r x y H Q ∨ r' x y H Q) (fun x y C P => ar x y C P ∨ ar' x y C P) := by
  intro v w d e F C R H Q P hS r1 r2 h0 k
  rcases h0 with q | q
  · exact .inl (h v w d e F C R H Q P hS r1 r2 q k)
  · exact .inr (h' v w d e F C R H Q P hS r1 r2 q k)
theorem SimR2.imp {r : R2} {ar ar' : D → D → AH → (D → AH → Prop) → Prop} (h : SimR2 B K r ar) (i : ∀ d e C P, ar' d e C P → ar d e C P) : SimR2 B K r ar' := fun v w d e F C R H Q P hS r1 r2 h0 k => h v w d e F C R H Q P hS r1 r2 (i d e C P h0) k
/-- ints in, a flat value out -/
def aI (c : Int → Int → Prop) (g : Int → Int → D) : D → D → AH → (D → AH → Prop) → Prop := fun x y C P => match x, y with
  | .int i, .int j => c i j ∧ P (g i j) C
  | _, _ => False
theorem simI {c : Int → Int → Prop} {g : Int → Int → V} {g' : Int → Int → D} (hg : ∀ F i j, Rep K F (g i j) (g' i j)) : SimR2 B K (rI c g) (aI c g') := by
  intro v w d e F C R H Q P hS r1 r2 h k
  unfold aI at h
  split at h
  · cases r1; cases r2
    exact ⟨_, _, rfl, rfl, h.1, k _ _ F C H (Ex.refl F) hS (hg F _ _) h.2⟩
  · exact h.elim
def aI0 (g : Int → Int → D) : D → D → AH → (D → AH → Prop) → Prop := fun x y C P => match x, y with
  | .int i, .int j => P (g i j) C
  | _, _ => False
theorem simI0 {g : Int → Int → V} {g' : Int → Int → D} (hg : ∀ F i j, Rep K F (g i j) (g' i j)) : SimR2 B K (rI0 g) (aI0 g') := by
  intro v w d e F C R H Q P hS r1 r2 h k
  unfold aI0 at h
  split at h
  · cases r1; cases r2
    exact ⟨_, _, rfl, rfl, k _ _ F C H (Ex.refl F) hS (hg F _ _) h⟩
  · exact h.elim
def aSub := aI0 fun i j => .int (i - j)
def CMulA (i j : Int) : Prop := CMul i j ∨ CMulW i j
def aMul := aI CMul fun i j => .int (i * j)
def aMulW := aI CMulW fun i j => .int (i * j)
def aDiv := aI CDiv fun i j => .int (i / j)
def aDivW := aI CDivW fun i j => .int (i / j)
def aMod := aI (fun _ j => 0 < j) fun i j => .int (i % j)
def aLt := aI0 fun i j => .bl (decide (i < j))
def aLe := aI0 fun i j => .bl (decide (i ≤ j))
def aGt := aI0 fun i j => .bl (decide (j < i))
def aGe := aI0 fun i j => .bl (decide (j ≤ i))
def aPow := aI CPow fun i j => .int (i ^ j.toNat)
theorem ao_sub : AOp B X (binaryOp .Sub) (rI0 fun i j => .int (i - j)) aSub := ⟨op_sub, simI0 fun _ _ _ => .int _⟩
theorem ao_mul : AOp B X (binaryOp .Mult) (rI CMul fun i j => .int (i * j)) aMul := ⟨op_mul, simI fun _ _ _ => .int _⟩
theorem ao_mulW : AOp B X (binaryOp .Mult) (rI CMulW fun i j => .int (i * j)) aMulW := ⟨op_mulW, simI fun _ _ _ => .int _⟩
theorem ao_div : AOp B X (binaryOp .FloorDiv) (rI CDiv fun i j => .int (i / j)) aDiv := ⟨op_fdiv, simI fun _ _ _ => .int _⟩
theorem ao_divW : AOp B X (binaryOp .FloorDiv) (rI CDivW fun i j => .int (i / j)) aDivW := ⟨op_fdivW, simI fun _ _ _ => .int _⟩
theorem ao_mod : AOp B X (binaryOp .Mod) (rI (fun _ j => 0 < j) fun i j => .int (i % j)) aMod := ⟨op_mod, simI fun _ _ _ => .int _⟩
theorem ao_pow : AOp B X (binaryOp .Pow) (rI CPow fun i j => .int (i ^ j.toNat)) aPow := ⟨op_pow, simI fun _ _ _ => .int _⟩
theorem ao_lt : AOp B X (compareOp .Lt) (rI0 fun i j => .bl (decide (i < j))) aLt := ⟨op_lt, simI0 fun _ _ _ => .bl _⟩
theorem ao_le : AOp B X (compareOp .LtE) (rI0 fun i j => .bl (decide (i ≤ j))) aLe := ⟨op_le, simI0 fun _ _ _ => .bl _⟩
theorem ao_gt : AOp B X (compareOp .Gt) (rI0 fun i j => .bl (decide (j < i))) aGt := ⟨op_gt, simI0 fun _ _ _ => .bl _⟩
theorem ao_ge : AOp B X (compareOp .GtE) (rI0 fun i j => .bl (decide (j ≤ i))) aGe := ⟨op_ge, simI0 fun _ _ _ => .bl _⟩

/-! ### what a tree reads as a list, a tuple -/
def asL (C : AH) : D → Option (List D)
  | .lst ds => some ds
  | .ce p => match C p with | some (.lst ds) => some ds | _ => none
  | _ => none
def asLr (C : AH) : D → Option (List D)
  | .scr ns => some (ns.map D.int)
  | d => asL C d
def asT : D → Option (List D)
  | .tup ds => some ds
  | _ => none
section
variable {F : Hp} {C : AH} {R H : Hp} {v : V} {d : D} {ds : List D}
theorem asL_ok (hS : Sat B K F C R H) (r : Rep K F v d) (h : asL C d = some ds) : ∃ a xs, v = .ref a ∧ H a = some (.lst xs) ∧ RepL K F xs ds := by
  cases r with
  | lst e q => cases h; exact ⟨_, _, rfl, hS.ex _ _ e, q⟩
  | ce p =>
    simp only [asL] at h
    split at h
    · rename_i e
      cases h
      obtain ⟨_, o, h1, h2⟩ := hS.cell p _ e
      cases h2 with
      | lst q => exact ⟨p, _, rfl, h1, q⟩
    · cases h
  | _ => cases h
theorem asLr_ok (hS : Sat B K F C R H) (r : Rep K F v d) (h : asLr C d = some ds) : ∃ a xs, v = .ref a ∧ SqL K H a xs ∧ RepL K F xs ds := by
  cases d with
  | scr ns =>
    cases r with
    | scr e => cases h; exact ⟨_, _, rfl, hS.ex.l e, .ints ns⟩
  | _ =>
    obtain ⟨a, xs, h1, h2, h3⟩ := asL_ok hS r (show asL C _ = some ds from h)
    exact ⟨a, xs, h1, SqL.of h2, h3⟩
theorem asT_ok (hS : Sat B K F C R H) (r : Rep K F v d) (h : asT d = some ds) : ∃ a xs, v = .ref a ∧ H a = some (.tup xs) ∧ RepL K F xs ds := by
  cases r with
  | tup e q => cases h; exact ⟨_, _, rfl, hS.ex _ _ e, q⟩
  | _ => cases h
end
/-- the order matters: what stands ahead is tried first -/
def aAdd : D → D → AH → (D → AH → Prop) → Prop := fun x y C P => match x, y with
  | .int i, .int j => P (.int (i + j)) C
  | .str i, .str j => i.length + j.length ≤ sizeLine ∧ P (.str (i ++ j)) C
  | .tup xs, .tup ys => xs.length + ys.length ≤ sizeLine ∧ P (.tup (xs ++ ys)) C
  | x, y => ∃ xs ys, asL C x = some xs ∧ asL C y = some ys ∧ xs.length + ys.length ≤ sizeLine ∧ P (.lst (xs ++ ys)) C
def rAddA (K : PySem.W.Frag) : R2 := fun x y H Q => (rI0 (fun i j => .int (i + j)) x y H Q ∨ (∃ i j, x = .str i ∧ y = .str j ∧ i.length + j.length ≤ sizeLine ∧ Q (.str (i ++ j)) H)) ∨ rCatA K x y H Q ∨ rCat x y H Q
theorem sim_add : SimR2 B K (rAddA K) aAdd := by
  intro v w d e F C R H Q P hS r1 r2 h k
  unfold aAdd at h
  split at h
  · cases r1; cases r2
    exact .inl (.inl ⟨_, _, rfl, rfl, k _ _ F C H (Ex.refl F) hS (.int _) h⟩)
  · cases r1; cases r2
    exact .inl (.inr ⟨_, _, rfl, rfl, h.1, k _ _ F C H (Ex.refl F) hS (.str _) h.2⟩)
  · cases r1 with
    | @tup a xs us h1 q1 =>
      cases r2 with
      | @tup b ys ws h2 q2 =>
        refine .inr (.inl ⟨a, b, xs, ys, rfl, rfl, SqT.of (hS.ex _ _ h1), SqT.of (hS.ex _ _ h2), by rw [q1.length, q2.length]; exact h.1, fun z => ?_, fun _ z => ?_, fun _ _ p hp => ?_⟩)
        · subst z
          cases q1
          exact k _ _ F C H (Ex.refl F) hS (.tup h2 q2) h.2
        · subst z
          cases q2
          have := h.2
          rw [List.append_nil] at this
          exact k _ _ F C H (Ex.refl F) hS (.tup h1 q1) this
        · have e := Ex.new (o := .tup (xs ++ ys)) (hS.freeF hp)
          exact k _ _ _ C _ e (hS.newF hp _) (.tup upd_same ((q1.append q2).mono e)) h.2
  · obtain ⟨xs', ys', h1, h2, hl, h3⟩ := h
    obtain ⟨a, xs, e1, ha, q1⟩ := asL_ok hS r1 h1
    obtain ⟨b, ys, e2, hb, q2⟩ := asL_ok hS r2 h2
    refine .inr (.inr ⟨a, b, xs, ys, e1, e2, ha, hb, by rw [q1.length, q2.length]; exact hl, fun p hp => ?_⟩)
    have e := Ex.new (o := .lst (xs ++ ys)) (hS.freeF hp)
    exact k _ _ _ C _ e (hS.newF hp _) (.lst upd_same ((q1.append q2).mono e)) h3
theorem ao_add (hK : X.K = K := by rfl) : AOp B X (binaryOp .Add) (rAddA K) aAdd := by
  subst hK
  exact ⟨(op_add.or op_add_str).or (op_catA.or op_cat), sim_add⟩
/-- xs + ys, a list that will be changed -/
def aAddM : D → D → AH → (D → AH → Prop) → Prop := fun x y C P => ∃ xs ys, asL C x = some xs ∧ asL C y = some ys ∧ xs.length + ys.length ≤ sizeLine ∧ ∀ p, C p = none → P (.ce p) (put C p (.lst (xs ++ ys)))
theorem sim_addM : SimR2 B K rCat aAddM := by
  intro v w d e F C R H Q P hS r1 r2 h k
  obtain ⟨xs', ys', h1, h2, hl, h3⟩ := h
  obtain ⟨a, xs, e1, ha, q1⟩ := asL_ok hS r1 h1
  obtain ⟨b, ys, e2, hb, q2⟩ := asL_ok hS r2 h2
  refine ⟨a, b, xs, ys, e1, e2, ha, hb, by rw [q1.length, q2.length]; exact hl, fun p hp => ?_⟩
  exact k _ _ F _ _ (Ex.refl F) (hS.newC hp (.lst (q1.append q2))) (.ce p) (h3 p (hS.freeC hp))
theorem ao_addM : AOp B X (binaryOp .Add) rCat aAddM := ⟨op_cat, sim_addM⟩
end
end AL

namespace AL
open PySem PySem.Spec L2
variable {B : Bs}
section
variable {X : Cx} {pos : Pos} {K : PySem.W.Frag}
/-! ### ==, !=, in -/
mutual
/-- the tree as the library's data (none: a cell within it) -/
def D.pd : D → Option PyData
  | .non => some .none
  | .bl b => some (.bool b)
  | .int i => some (.int i)
  | .str x => some (.str x)
  | .lst ds => (pdL ds).map .list
  | .tup ds => (pdL ds).map .tuple
  | .scr ns => some (.list (ns.map .int))
  | _ => none
def pdL : List D → Option (List PyData)
  | [] => some []
  | d :: ds => match D.pd d, pdL ds with | some x, some xs => some (x :: xs) | _, _ => none
end
def pdC (C : AH) : D → Option PyData
  | .ce p => match C p with | some (.lst ds) => (pdL ds).map .list | _ => none
  | d => d.pd
mutual
theorem Rep.dp {F H : Hp} (e : Ex F H) : ∀ {d : D} {v : V} {x : PyData}, Rep K F v d → d.pd = some x → Dp K H v x
  | .non, _, _, r, h => by cases r; cases h; exact .non
  | .bl b, _, _, r, h => by cases r; cases h; exact .bl b
  | .int i, _, _, r, h => by cases r; cases h; exact .int i
  | .str x, _, _, r, h => by cases r; cases h; exact .str x
  | .lst ds, _, _, r, h => by
    cases r with
    | lst h1 h2 =>
      unfold D.pd at h
      cases q : pdL ds with
      | none => rw [q] at h; cases h
      | some xs => rw [q] at h; cases h; exact .lst (SqL.of (e _ _ h1)) (RepL.dp e h2 q)
  | .tup ds, _, _, r, h => by
    cases r with
    | tup h1 h2 =>
      unfold D.pd at h
      cases q : pdL ds with
      | none => rw [q] at h; cases h
      | some xs => rw [q] at h; cases h; exact .tup (SqT.of (e _ _ h1)) (RepL.dp e h2 q)
  | .scr ns, _, _, r, h => by
    cases r with
    | scr h1 => 
      cases h
      refine .lst (e.l h1) ?_
      clear h1
      induction ns with
      | nil => exact .nil
      | cons n ns ih => exact .cons (.int n) ih
  | .dk _, _, _, _, h => by unfold D.pd at h; cases h
  | .ce _, _, _, _, h => by unfold D.pd at h; cases h
theorem RepL.dp {F H : Hp} (e : Ex F H) : ∀ {ds : List D} {vs : List V} {xs : List PyData}, RepL K F vs ds → pdL ds = some xs → DpAll K H vs xs
  | [], _, _, r, h => by cases r; cases h; exact .nil
  | d :: ds, _, _, r, h => by
    cases r with
    | cons r1 r2 =>
      unfold pdL at h
      split at h
      · rename_i q1 q2
        cases h
        exact .cons (Rep.dp e r1 q1) (RepL.dp e r2 q2)
      · cases h
end
theorem pdC_ok {F : Hp} {C : AH} {R H : Hp} {v : V} {d : D} {x : PyData} (hS : Sat B K F C R H) (r : Rep K F v d) (h : pdC C d = some x) : Dp K H v x := by
  cases d with
  | ce p =>
    cases r
    simp only [pdC] at h
    split at h
    · rename_i ds e
      cases q : pdL ds with
      | none => rw [q] at h; cases h
      | some xs =>
        rw [q] at h; cases h
        obtain ⟨_, o, h1, h2⟩ := hS.cell p _ e
        cases h2 with
        | lst h3 => exact .lst (SqL.of h1) (RepL.dp hS.ex h3 q)
    · cases h
  | _ => exact Rep.dp hS.ex r h
/-- flat values, == by itself -/
def eqS : D → D → Option Bool
  | .non, .non => some true
  | .non, .int _ => some false
  | .int _, .non => some false
  | .non, .bl _ => some false
  | .bl _, .non => some false
  | .non, .str _ => some false
  | .str _, .non => some false
  | .int i, .int j => some (decide (i = j))
  | .bl i, .bl j => some (decide (i = j))
  | .str i, .str j => some (decide (i = j))
  | .int _, .str _ => some false
  | .str _, .int _ => some false
  | .bl _, .str _ => some false
  | .str _, .bl _ => some false
  | _, _ => none
theorem eqS_ok {F : Hp} {v w : V} {d e : D} {b : Bool} (r1 : Rep K F v d) (r2 : Rep K F w e) (h : eqS d e = some b) : scal v w = true ∧ decide (v = w) = b := by
  unfold eqS at h
  split at h <;> first | (cases h; done) | (cases r1; cases r2; cases h; refine ⟨rfl, ?_⟩; first | rfl | (apply Bool.eq_iff_iff.mpr; simp; done))
def aEqN (neg : Bool) : D → D → AH → (D → AH → Prop) → Prop := fun x y C P => match eqS x y with
  | some b => P (.bl (if neg then !b else b)) C
  | none => ∃ d e, pdC C x = some d ∧ pdC C y = some e ∧ SeqAt.shaped d = true ∧ SeqAt.shaped e = true ∧ P (.bl (if neg then !PyData.eqv d e else PyData.eqv d e)) C
def aEq := aEqN false
def aNe := aEqN true
theorem sim_eq : SimR2 B K (fun x y H Q => rEq x y H Q ∨ rEqD K x y H Q) aEq := by
  intro v w d e F C R H Q P hS r1 r2 h k
  unfold aEq aEqN at h
  split at h
  · rename_i b q
    obtain ⟨h1, h2⟩ := eqS_ok r1 r2 q
    exact .inl ⟨h1, k _ _ F C H (Ex.refl F) hS (by rw [h2]; exact .bl b) h⟩
  · obtain ⟨d', e', h1, h2, s1, s2, h3⟩ := h
    exact .inr ⟨d', e', pdC_ok hS r1 h1, pdC_ok hS r2 h2, s1, s2, k _ _ F C H (Ex.refl F) hS (.bl _) h3⟩
theorem sim_ne : SimR2 B K (fun x y H Q => rNe x y H Q ∨ rNeD K x y H Q) aNe := by
  intro v w d e F C R H Q P hS r1 r2 h k
  unfold aNe aEqN at h
  split at h
  · rename_i b q
    obtain ⟨h1, h2⟩ := eqS_ok r1 r2 q
    exact .inl ⟨h1, k _ _ F C H (Ex.refl F) hS (by rw [h2]; exact .bl _) h⟩
  · obtain ⟨d', e', h1, h2, s1, s2, h3⟩ := h
    exact .inr ⟨d', e', pdC_ok hS r1 h1, pdC_ok hS r2 h2, s1, s2, k _ _ F C H (Ex.refl F) hS (.bl _) h3⟩
theorem ao_eq (hu : X.A.units + 64 < cLine) (hK : X.K = K := by rfl) : AOp B X (compareOp .Eq) (fun x y H Q => rEq x y H Q ∨ rEqD K x y H Q) aEq := by
  subst hK
  exact ⟨op_eq.or (op_eqD hu), sim_eq⟩
theorem ao_ne (hu : X.A.units + 64 < cLine) (hK : X.K = K := by rfl) : AOp B X (compareOp .NotEq) (fun x y H Q => rNe x y H Q ∨ rNeD K x y H Q) aNe := by
  subst hK
  exact ⟨op_ne.or (op_neD hu), sim_ne⟩
/-- is None -/
def isNon : D → Bool
  | .non => true
  | _ => false
def aIsN : D → D → AH → (D → AH → Prop) → Prop := fun x y C P => isNon y = true ∧ P (.bl (isNon x)) C
def aNotN : D → D → AH → (D → AH → Prop) → Prop := fun x y C P => isNon y = true ∧ P (.bl (!isNon x)) C
theorem isNon_ok {F : Hp} {v : V} {d : D} (r : Rep K F v d) : decide (v = .non) = isNon d := by
  cases r <;> rfl
theorem ao_is : AOp B X (compareOp .Is) (fun x y H Q => y = .non ∧ Q (.bl (decide (x = .non))) H) aIsN := ⟨op_isN, by
  intro v w d e F C R H Q P hS r1 r2 h k
  refine ⟨of_decide_eq_true ((isNon_ok r2).trans h.1), k _ _ F C H (Ex.refl F) hS (by rw [isNon_ok r1]; exact .bl _) h.2⟩⟩
theorem ao_isnot : AOp B X (compareOp .IsNot) (fun x y H Q => y = .non ∧ Q (.bl (!decide (x = .non))) H) aNotN := ⟨op_notN, by
  intro v w d e F C R H Q P hS r1 r2 h k
  refine ⟨of_decide_eq_true ((isNon_ok r2).trans h.1), k _ _ F C H (Ex.refl F) hS (by rw [isNon_ok r1]; exact .bl _) h.2⟩⟩

/-! ### truth, and, or, not, if -/
def truth (C : AH) : D → Option Bool
  | .non => some false
  | .bl b => some b
  | .int i => some (i != 0)
  | .str x => if x.length ≤ sizeLine then some ((x.length : Int) != 0) else none
  | .lst ds => some (!ds.isEmpty)
  | .tup ds => some (!ds.isEmpty)
  | .scr ns => some (!ns.isEmpty)
  | .dk kvs => some (!kvs.isEmpty)
  | .ce p => match C p with | some (.lst ds) => some (!ds.isEmpty) | some (.dk kvs) => some (!kvs.isEmpty) | _ => none
theorem RepL.empty {F : Hp} {vs : List V} {ds : List D} (r : RepL K F vs ds) : (!vs.isEmpty) = !ds.isEmpty := by cases r <;> rfl
theorem RepK.empty {F : Hp} {vs : List (Key × V)} {ds : List (Key × D)} (r : RepK K F vs ds) : (!vs.isEmpty) = !ds.isEmpty := by cases r <;> rfl
theorem truth_ok {F : Hp} {C : AH} {R H : Hp} {v : V} {d : D} {b : Bool} (hS : Sat B K F C R H) (r : Rep K F v d) (h : truth C d = some b) : TruV K v H b := by
  cases r with
  | non => cases h; rfl
  | bl b => cases h; rfl
  | int i => cases h; rfl
  | str x =>
    simp only [truth] at h
    split at h
    · rename_i hz
      cases h
      exact ⟨hz, rfl⟩
    · cases h
  | lst e q => cases h; exact .inl ⟨_, SqL.of (hS.ex _ _ e), q.empty.symm⟩
  | tup e q => cases h; exact .inr (.inl ⟨_, SqT.of (hS.ex _ _ e), q.empty.symm⟩)
  | dk e q => cases h; exact .inr (.inr ⟨_, hS.ex _ _ e, q.empty.symm⟩)
  | scr e =>
    cases h
    refine .inl ⟨_, hS.ex.l e, ?_⟩
    rename_i ns
    cases ns <;> rfl
  | ce p =>
    simp only [truth] at h
    split at h
    · rename_i e
      cases h
      obtain ⟨_, o, h1, h2⟩ := hS.cell p _ e
      cases h2 with
      | lst q => exact .inl ⟨_, SqL.of h1, q.empty.symm⟩
    · rename_i e
      cases h
      obtain ⟨_, o, h1, h2⟩ := hS.cell p _ e
      cases h2 with
      | dk q => exact .inr (.inr ⟨_, h1, q.empty.symm⟩)
    · cases h
def aTru (a : AE') : AT' := fun s C P => a s C fun x C1 => match truth C1 x with | some b => P b C1 | none => False
theorem sim_tru {ta : TE} {a : AE'} (ha : SimE B K ta a) : SimT B K (fun σ H Q => ta σ H fun x H' => ∃ k, TruV K x H' k ∧ Q k H') (aTru a) := by
  intro σ s F C R H Q P hs hS h k
  refine ha σ s F C R H _ _ hs hS h fun x v F1 C1 H1 e1 S1 r1 h1 => ?_
  split at h1
  · rename_i b q
    exact ⟨b, truth_ok S1 r1 q, k b F1 C1 H1 e1 S1 h1⟩
  · exact h1.elim
theorem at_tru {e : Expr} {te : TE} {a : AE'} (h : AE B X e te a) (he : ∀ whole, isTrue e X.env whole = (do let v ← whole; standAt e.pos; holding [v] (truthy v)) := by intro _; rfl) (hK : X.K = K := by rfl) :
    AT B X e (fun σ H Q => te σ H fun x H' => ∃ k, TruV K x H' k ∧ Q k H') (aTru a) := by
  subst hK
  exact ⟨pt_truth h.pe he, sim_tru h.sim⟩
/-- a comparison's value as a test -/
def aB (a : AE') : AT' := fun s C P => a s C fun x C1 => match x with | .bl b => P b C1 | _ => False
theorem sim_B {ta : TE} {a : AE'} (ha : SimE B K ta a) : SimT B K (tTest ta) (aB a) := by
  intro σ s F C R H Q P hs hS h k
  refine ha σ s F C R H _ _ hs hS h fun x v F1 C1 H1 e1 S1 r1 h1 => ?_
  split at h1
  · cases r1
    exact ⟨_, rfl, k _ F1 C1 H1 e1 S1 h1⟩
  · exact h1.elim
theorem at_cmp {o : CmpOp} {r ar} {a b : Expr} {ta tb : TE} {aa ab : AE'} (ho : AOp B X (compareOp o) r ar) (ha : AE B X a ta aa) (hb : AE B X b tb ab) (hm : behindInMarks o b = false := by first | exact nomark _ | with_unfolding_all rfl) : AT B X (.Compare a [o] [b] pos) (tTest (tOp r ta tb)) (aB (aOp ar aa ab)) :=
  ⟨pt_cmpR ho.op ha.pe hb.pe hm, sim_B (sim_op ho.sim ha.sim hb.sim)⟩
/-- a < b < c -/
def aChain (r r' : D → D → AH → (D → AH → Prop) → Prop) (a b c : AE') : AE' := fun s C P => a s C fun x C1 => b s C1 fun y C2 => r x y C2 fun z C3 => match z with
  | .bl true => c s C3 fun w C4 => r' y w C4 P
  | .bl false => P (.bl false) C3
  | _ => False
theorem sim_chain {r r' : R2} {ar ar'} {ta tb tc : TE} {a b c : AE'} (hr : SimR2 B K r ar) (hr' : SimR2 B K r' ar') (ha : SimE B K ta a) (hb : SimE B K tb b) (hc : SimE B K tc c) : SimE B K (tChain r r' ta tb tc) (aChain ar ar' a b c) := by
  intro σ s F C R H Q P hs hS h k
  refine ha σ s F C R H _ _ hs hS h fun x v F1 C1 H1 e1 S1 r1 h1 => ?_
  refine hb σ s F1 C1 R H1 _ _ (hs.mono e1) S1 h1 fun y w F2 C2 H2 e2 S2 r2 h2 => ?_
  refine hr v w x y F2 C2 R H2 _ _ S2 (r1.mono e2) r2 h2 fun z u F3 C3 H3 e3 S3 r3 h3 => ?_
  split at h3
  · cases r3
    refine ⟨true, rfl, ?_⟩
    rw [if_pos rfl]
    refine hc σ s F3 C3 R H3 _ _ (hs.mono ((e1.trans e2).trans e3)) S3 h3 fun w' u' F4 C4 H4 e4 S4 r4 h4 => ?_
    exact hr' w u' y w' F4 C4 R H4 Q P S4 (r2.mono (e3.trans e4)) r4 h4 fun d u F5 C5 H5 e5 S5 r5 h5 => k d u F5 C5 H5 ((((e1.trans e2).trans e3).trans e4).trans e5) S5 r5 h5
  · cases r3
    refine ⟨false, rfl, ?_⟩
    rw [if_neg Bool.false_ne_true]
    exact k _ _ F3 C3 H3 ((e1.trans e2).trans e3) S3 (.bl false) h3
  · exact h3.elim
theorem ae_chain {o o' : CmpOp} {r r' ar ar'} {a b c : Expr} {ta tb tc : TE} {aa ab ac : AE'} (ho : AOp B X (compareOp o) r ar) (ho' : AOp B X (compareOp o') r' ar') (ha : AE B X a ta aa) (hb : AE B X b tb ab) (hc : AE B X c tc ac)
    (hm : lastMarks [o, o'] [b, c] = false := by first | rfl | with_unfolding_all rfl) : AE B X (.Compare a [o, o'] [b, c] pos) (tChain r r' ta tb tc) (aChain ar ar' aa ab ac) :=
  ⟨pe_chain ho.op ho'.op ha.pe hb.pe hc.pe hm, sim_chain ho.sim ho'.sim ha.sim hb.sim hc.sim⟩
theorem at_chain {o o' : CmpOp} {r r' ar ar'} {a b c : Expr} {ta tb tc : TE} {aa ab ac : AE'} (ho : AOp B X (compareOp o) r ar) (ho' : AOp B X (compareOp o') r' ar') (ha : AE B X a ta aa) (hb : AE B X b tb ab) (hc : AE B X c tc ac)
    (hm : lastMarks [o, o'] [b, c] = false := by first | rfl | with_unfolding_all rfl) : AT B X (.Compare a [o, o'] [b, c] pos) (tTest (tChain r r' ta tb tc)) (aB (aChain ar ar' aa ab ac)) :=
  ⟨pt_chain ho.op ho'.op ha.pe hb.pe hc.pe hm, sim_B (sim_chain ho.sim ho'.sim ha.sim hb.sim hc.sim)⟩
def aAnd (a b : AT') : AT' := fun s C P => a s C fun c C1 => if c = true then b s C1 P else P false C1
def aOr (a b : AT') : AT' := fun s C P => a s C fun c C1 => if c = true then P true C1 else b s C1 P
def aNot (a : AT') : AT' := fun s C P => a s C fun c C1 => P (!c) C1
theorem sim_and {t u : TT} {a b : AT'} (ha : SimT B K t a) (hb : SimT B K u b) : SimT B K (tAnd t u) (aAnd a b) := by
  intro σ s F C R H Q P hs hS h k
  refine ha σ s F C R H _ _ hs hS h fun c F1 C1 H1 e1 S1 h1 => ?_
  cases c with
  | true => exact hb σ s F1 C1 R H1 Q P (hs.mono e1) S1 h1 fun c F2 C2 H2 e2 S2 h2 => k c F2 C2 H2 (e1.trans e2) S2 h2
  | false => exact k false F1 C1 H1 e1 S1 h1
theorem sim_or {t u : TT} {a b : AT'} (ha : SimT B K t a) (hb : SimT B K u b) : SimT B K (tOr t u) (aOr a b) := by
  intro σ s F C R H Q P hs hS h k
  refine ha σ s F C R H _ _ hs hS h fun c F1 C1 H1 e1 S1 h1 => ?_
  cases c with
  | false => exact hb σ s F1 C1 R H1 Q P (hs.mono e1) S1 h1 fun c F2 C2 H2 e2 S2 h2 => k c F2 C2 H2 (e1.trans e2) S2 h2
  | true => exact k true F1 C1 H1 e1 S1 h1
theorem sim_not {t : TT} {a : AT'} (ha : SimT B K t a) : SimT B K (tNot t) (aNot a) := by
  intro σ s F C R H Q P hs hS h k
  exact ha σ s F C R H _ _ hs hS h fun c F1 C1 H1 e1 S1 h1 => k (!c) F1 C1 H1 e1 S1 h1
section
variable {a b : Expr} {t u : TT} {ta tb : TE} {xa xb : AT'} {aa ab : AE'} {rest : List Expr}
theorem aw_and1 (h : AT B X a t xa) : AW B X (.BoolOp .And [a] pos) t xa := ⟨pw_and1 h.pt, h.sim⟩
theorem aw_or1 (h : AT B X a t xa) : AW B X (.BoolOp .Or [a] pos) t xa := ⟨pw_or1 h.pt, h.sim⟩
theorem aw_and (h : AT B X a t xa) (g : AW B X (.BoolOp .And (b :: rest) pos) u xb) : AW B X (.BoolOp .And (a :: b :: rest) pos) (tAnd t u) (aAnd xa xb) := ⟨pw_and h.pt g.pw, sim_and h.sim g.sim⟩
theorem aw_or (h : AT B X a t xa) (g : AW B X (.BoolOp .Or (b :: rest) pos) u xb) : AW B X (.BoolOp .Or (a :: b :: rest) pos) (tOr t u) (aOr xa xb) := ⟨pw_or h.pt g.pw, sim_or h.sim g.sim⟩
theorem aw_t (h : AW B X a t xa) : AT B X a t xa := ⟨h.pw.pt, h.sim⟩
theorem at_not (h : AT B X a t xa) : AT B X (.UnaryOp .Not a pos) (tNot t) (aNot xa) := ⟨pt_not h.pt, sim_not h.sim⟩
/-- as values -/
def aAndV (a b : AE') : AE' := fun s C P => a s C fun x C1 => match truth C1 x with | some true => b s C1 P | some false => P x C1 | none => False
def aOrV (a b : AE') : AE' := fun s C P => a s C fun x C1 => match truth C1 x with | some true => P x C1 | some false => b s C1 P | none => False
def aNotV (a : AE') : AE' := fun s C P => a s C fun x C1 => match truth C1 x with | some b => P (.bl (!b)) C1 | none => False
theorem sim_andV (ha : SimE B K ta aa) (hb : SimE B K tb ab) : SimE B K (tAndT K ta tb) (aAndV aa ab) := by
  intro σ s F C R H Q P hs hS h k
  refine ha σ s F C R H _ _ hs hS h fun x v F1 C1 H1 e1 S1 r1 h1 => ?_
  split at h1
  · rename_i q
    refine ⟨true, truth_ok S1 r1 q, ?_⟩
    rw [if_pos rfl]
    exact hb σ s F1 C1 R H1 Q P (hs.mono e1) S1 h1 fun d u F2 C2 H2 e2 S2 r2 h2 => k d u F2 C2 H2 (e1.trans e2) S2 r2 h2
  · rename_i q
    refine ⟨false, truth_ok S1 r1 q, ?_⟩
    rw [if_neg Bool.false_ne_true]
    exact k x v F1 C1 H1 e1 S1 r1 h1
  · exact h1.elim
theorem sim_orV (ha : SimE B K ta aa) (hb : SimE B K tb ab) : SimE B K (tOrT K ta tb) (aOrV aa ab) := by
  intro σ s F C R H Q P hs hS h k
  refine ha σ s F C R H _ _ hs hS h fun x v F1 C1 H1 e1 S1 r1 h1 => ?_
  split at h1
  · rename_i q
    refine ⟨true, truth_ok S1 r1 q, ?_⟩
    rw [if_pos rfl]
    exact k x v F1 C1 H1 e1 S1 r1 h1
  · rename_i q
    refine ⟨false, truth_ok S1 r1 q, ?_⟩
    rw [if_neg Bool.false_ne_true]
    exact hb σ s F1 C1 R H1 Q P (hs.mono e1) S1 h1 fun d u F2 C2 H2 e2 S2 r2 h2 => k d u F2 C2 H2 (e1.trans e2) S2 r2 h2
  · exact h1.elim
theorem sim_notV (ha : SimE B K ta aa) : SimE B K (tNotT K ta) (aNotV aa) := by
  intro σ s F C R H Q P hs hS h k
  refine ha σ s F C R H _ _ hs hS h fun x v F1 C1 H1 e1 S1 r1 h1 => ?_
  split at h1
  · rename_i b q
    exact ⟨b, truth_ok S1 r1 q, k _ _ F1 C1 H1 e1 S1 (.bl _) h1⟩
  · exact h1.elim
theorem ae_one {op} (h : AE B X a ta aa) : AE B X (.BoolOp op [a] pos) ta aa := ⟨pe_one h.pe, h.sim⟩
theorem ae_and (h : AE B X a ta aa) (g : AE B X (.BoolOp .And (b :: rest) pos) tb ab) (hK : X.K = K := by rfl) : AE B X (.BoolOp .And (a :: b :: rest) pos) (tAndT K ta tb) (aAndV aa ab) := by
  subst hK
  exact ⟨pe_andT h.pe g.pe, sim_andV h.sim g.sim⟩
theorem ae_or (h : AE B X a ta aa) (g : AE B X (.BoolOp .Or (b :: rest) pos) tb ab) (hK : X.K = K := by rfl) : AE B X (.BoolOp .Or (a :: b :: rest) pos) (tOrT K ta tb) (aOrV aa ab) := by
  subst hK
  exact ⟨pe_orT h.pe g.pe, sim_orV h.sim g.sim⟩
theorem ae_not (h : AE B X a ta aa) (hK : X.K = K := by rfl) : AE B X (.UnaryOp .Not a pos) (tNotT K ta) (aNotV aa) := by
  subst hK
  exact ⟨pe_notT h.pe, sim_notV h.sim⟩
def aIf (t : AT') (a b : AE') : AE' := fun s C P => t s C fun c C1 => if c = true then a s C1 P else b s C1 P
theorem ae_if {c : Expr} {tc : TT} {xc : AT'} (hc : AT B X c tc xc) (h : AE B X a ta aa) (g : AE B X b tb ab) : AE B X (.IfExp c a b pos) (tIf tc ta tb) (aIf xc aa ab) := ⟨pe_ifExp hc.pt h.pe g.pe, by
  intro σ s F C R H Q P hs hS h0 k
  refine hc.sim σ s F C R H _ _ hs hS h0 fun c F1 C1 H1 e1 S1 h1 => ?_
  cases c with
  | true => exact h.sim σ s F1 C1 R H1 Q P (hs.mono e1) S1 h1 fun d u F2 C2 H2 e2 S2 r2 h2 => k d u F2 C2 H2 (e1.trans e2) S2 r2 h2
  | false => exact g.sim σ s F1 C1 R H1 Q P (hs.mono e1) S1 h1 fun d u F2 C2 H2 e2 S2 r2 h2 => k d u F2 C2 H2 (e1.trans e2) S2 r2 h2⟩
def aNeg : D → AH → (D → AH → Prop) → Prop := fun x C P => match x with | .int i => P (.int (-i)) C | _ => False
theorem ae_neg (h : AE B X a ta aa) : AE B X (.UnaryOp .USub a pos) (tUn (rU fun i => .int (-i)) ta) (aUn aNeg aa) := ⟨pe_un un_neg h.pe, sim_un (by
  intro v d F C R H Q P hS r h0 k
  unfold aNeg at h0
  split at h0
  · cases r; exact ⟨_, rfl, k _ _ F C H (Ex.refl F) hS (.int _) h0⟩
  · exact h0.elim) h.sim⟩
end

/-! ### arguments, displays -/
def aNil : AA' := fun _ C P => P [] C
def aCons (a : AE') (r : AA') : AA' := fun s C P => a s C fun x C1 => r s C1 fun xs C2 => P (x :: xs) C2
theorem sim_nil : SimA B K 0 tNil aNil := fun σ s F C R H Q P hs hS h k => k [] [] F C H (Ex.refl F) hS .nil rfl h
theorem sim_cons {n : Nat} {ta : TE} {tr : TA} {a : AE'} {r : AA'} (ha : SimE B K ta a) (hr : SimA B K n tr r) : SimA B K (n + 1) (tCons ta tr) (aCons a r) := by
  intro σ s F C R H Q P hs hS h k
  refine ha σ s F C R H _ _ hs hS h fun x v F1 C1 H1 e1 S1 r1 h1 => ?_
  refine hr σ s F1 C1 R H1 _ _ (hs.mono e1) S1 h1 fun xs vs F2 C2 H2 e2 S2 r2 hl h2 => ?_
  exact k (x :: xs) (v :: vs) F2 C2 H2 (e1.trans e2) S2 (.cons (r1.mono e2) r2) (by rw [List.length_cons, hl]) h2
theorem aa_nil : AA B X [] 0 tNil aNil := ⟨pa_nil, sim_nil⟩
theorem aa_cons {e : Expr} {es : List Expr} {n : Nat} {te : TE} {t : TA} {a : AE'} {r : AA'} (h : AE B X e te a) (g : AA B X es n t r) (hs : starEach (e :: es) X.env = (false, eval e X.env) :: starEach es X.env := by rfl) : AA B X (e :: es) (n + 1) (tCons te t) (aCons a r) := ⟨pa_cons h.pe g.pa hs, sim_cons h.sim g.sim⟩
def aTup (a : AA') : AE' := fun s C P => a s C fun ds C1 => ds.length ≤ sizeLine ∧ P (.tup ds) C1
def aLst (a : AA') : AE' := fun s C P => a s C fun ds C1 => ds.length ≤ sizeLine ∧ P (.lst ds) C1
def aLstM (a : AA') : AE' := fun s C P => a s C fun ds C1 => ds.length ≤ sizeLine ∧ ∀ p, C1 p = none → P (.ce p) (put C1 p (.lst ds))
theorem ae_tup {es : List Expr} {n : Nat} {t : TA} {a : AA'} {x1} (h : AA B X es n t a) : AE B X (.Tuple es x1 pos) (tTup t) (aTup a) := ⟨pe_tup h.pa, by
  intro σ s F C R H Q P hs hS h0 k
  refine h.sim σ s F C R H _ _ hs hS h0 fun ds vs F1 C1 H1 e1 S1 r1 hl h1 => ⟨by rw [r1.length]; exact h1.1, fun p hp => ?_⟩
  have e := Ex.new (o := .tup vs) (S1.freeF hp)
  exact k _ _ _ C1 _ (e1.trans e) (S1.newF hp _) (.tup upd_same (r1.mono e)) h1.2⟩
theorem ae_lst {es : List Expr} {n : Nat} {t : TA} {a : AA'} (h : AA B X es n t a) : AE B X (.List es pos) (tLst t) (aLst a) := ⟨pe_lst h.pa, by
  intro σ s F C R H Q P hs hS h0 k
  refine h.sim σ s F C R H _ _ hs hS h0 fun ds vs F1 C1 H1 e1 S1 r1 hl h1 => ⟨by rw [r1.length]; exact h1.1, fun p hp => ?_⟩
  have e := Ex.new (o := .lst vs) (S1.freeF hp)
  exact k _ _ _ C1 _ (e1.trans e) (S1.newF hp _) (.lst upd_same (r1.mono e)) h1.2⟩
theorem ae_lstM {es : List Expr} {n : Nat} {t : TA} {a : AA'} (h : AA B X es n t a) : AE B X (.List es pos) (tLst t) (aLstM a) := ⟨pe_lst h.pa, by
  intro σ s F C R H Q P hs hS h0 k
  refine h.sim σ s F C R H _ _ hs hS h0 fun ds vs F1 C1 H1 e1 S1 r1 hl h1 => ⟨by rw [r1.length]; exact h1.1, fun p hp => ?_⟩
  exact k _ _ F1 _ _ e1 (S1.newC hp (.lst r1)) (.ce p) (h1.2 p (S1.freeC hp))⟩
end
end AL

namespace AL
open PySem PySem.Spec L2
variable {B : Bs}
section
variable {X : Cx} {pos : Pos} {K : PySem.W.Frag}
/-! ### subscripts, slices -/
def asS (C : AH) : D → Option (List D)
  | .tup ds => some ds
  | d => asLr C d
def aIx : D → D → AH → (D → AH → Prop) → Prop := fun x y C P => match x, y with
  | .str z, .int i => z.length ≤ sizeLine ∧ (match atI z.cps.toList i with | some c => P (.str ⟨#[c]⟩) C | none => False)
  | x, .int i => (match asS C x with | some ds => (match atI ds i with | some d => P d C | none => False) | none => False)
  | _, _ => False
theorem RepL.atI {F : Hp} {vs : List V} {ds : List D} {i : Int} {d : D} (r : RepL K F vs ds) (h : atI ds i = some d) : ∃ v, L2.atI vs i = some v ∧ Rep K F v d := by
  unfold L2.atI at h ⊢
  rw [r.length]
  cases q : ixN ds.length i with
  | none => rw [q] at h; cases h
  | some j =>
    rw [q] at h
    obtain ⟨v, h1, h2⟩ := r.getD (show ds[j]? = some d from h)
    exact ⟨v, h1, h2⟩
theorem sim_ix : SimR2 B K (rIx K) aIx := by
  intro v w d e F C R H Q P hS r1 r2 h k
  unfold aIx at h
  split at h
  · cases r1; cases r2
    obtain ⟨hz, h⟩ := h
    split at h
    · rename_i c q
      exact .inr (.inr ⟨_, _, c, rfl, rfl, hz, q, k _ _ F C H (Ex.refl F) hS (.str _) h⟩)
    · exact h.elim
  · cases r2
    split at h
    · rename_i ds q
      split at h
      · rename_i d' q2
        cases d with
        | tup us =>
          cases q
          obtain ⟨a, xs, e1, h1, h2⟩ := asT_ok hS r1 rfl
          obtain ⟨v', h3, h4⟩ := h2.atI q2
          exact .inr (.inl ⟨a, xs, _, v', e1, rfl, SqT.of h1, h3, k _ _ F C H (Ex.refl F) hS h4 h⟩)
        | _ =>
          obtain ⟨a, xs, e1, h1, h2⟩ := asLr_ok hS r1 (show asLr C _ = some ds from q)
          obtain ⟨v', h3, h4⟩ := h2.atI q2
          exact .inl ⟨a, xs, _, v', e1, rfl, h1, h3, k _ _ F C H (Ex.refl F) hS h4 h⟩
      · exact h.elim
    · exact h.elim
  · exact h.elim
theorem ae_ix {a b : Expr} {ta tb : TE} {aa ab : AE'} (ha : AE B X a ta aa) (hb : AE B X b tb ab) (hs : PlainIx b := by exact fun _ _ => rfl) (hK : X.K = K := by rfl) : AE B X (.Subscript a b pos) (tOp (rIx K) ta tb) (aOp aIx aa ab) := by
  subst hK
  exact ⟨pe_ix ix_seq ha.pe hb.pe hs, sim_op sim_ix ha.sim hb.sim⟩

abbrev AO' := ASt → AH → (Option Int → AH → Prop) → Prop
def SimO (B : Bs) (K : PySem.W.Frag) (to : TO) (a : AO') : Prop := ∀ (σ : L2.St) (s : ASt) (F : Hp) (C : AH) (R H : Hp) (Q : Option Int → Hp → Prop) (P : Option Int → AH → Prop), Slo K F s σ → Sat B K F C R H → a s C P →
  (∀ o F' C' H', Ex F F' → Sat B K F' C' R H' → P o C' → Q o H') → to σ H Q
structure AO (B : Bs) (X : Cx) (e : Option Expr) (to : TO) (a : AO') : Prop where
  po : PO X e to
  sim : SimO B X.K to a
def aNoPart : AO' := fun _ C P => P none C
def aPart (a : AE') : AO' := fun s C P => a s C fun x C1 => match x with | .int i => P (some i) C1 | _ => False
theorem ao_none : AO B X none tNoPart aNoPart := ⟨po_none, fun σ s F C R H Q P hs hS h k => k none F C H (Ex.refl F) hS h⟩
theorem ao_some {e : Expr} {te : TE} {a : AE'} (h : AE B X e te a) : AO B X (some e) (tPart te) (aPart a) := ⟨po_some h.pe, by
  intro σ s F C R H Q P hs hS h0 k
  refine h.sim σ s F C R H _ _ hs hS h0 fun x v F1 C1 H1 e1 S1 r1 h1 => ?_
  split at h1
  · cases r1
    exact ⟨_, rfl, k _ F1 C1 H1 e1 S1 h1⟩
  · exact h1.elim⟩
def cutD (xs : List D) (lo hi : Option Int) : List D := (xs.drop (HT.sIx xs.length 0 lo)).take (HT.sIx xs.length xs.length hi - HT.sIx xs.length 0 lo)
theorem RepL.cut {F : Hp} {vs : List V} {ds : List D} (r : RepL K F vs ds) (lo hi : Option Int) : RepL K F (cutV vs lo hi) (cutD ds lo hi) := by
  unfold cutV cutD
  rw [r.length]
  exact (r.drop _).take _
def aSl (r : D → Option Int → Option Int → AH → (D → AH → Prop) → Prop) (a : AE') (l h : AO') : AE' := fun s C P => a s C fun x C1 => l s C1 fun i C2 => h s C2 fun j C3 => r x i j C3 P
def SimRS (B : Bs) (K : PySem.W.Frag) (r : V → Option Int → Option Int → Hp → VK → Prop) (a : D → Option Int → Option Int → AH → (D → AH → Prop) → Prop) : Prop := ∀ (v : V) (d : D) (lo hi : Option Int) (F : Hp) (C : AH) (R H : Hp) (Q : VK) (P : D → AH → Prop), Sat B K F C R H → Rep K F v d → a d lo hi C P →
  (∀ d v F' C' H', Ex F F' → Sat B K F' C' R H' → Rep K F' v d → P d C' → Q v H') → r v lo hi H Q
theorem sim_sl {r ar} {ta : TE} {tl th : TO} {a : AE'} {l h : AO'} (hr : SimRS B K r ar) (ha : SimE B K ta a) (hl : SimO B K tl l) (hh : SimO B K th h) : SimE B K (tSl r ta tl th) (aSl ar a l h) := by
  intro σ s F C R H Q P hs hS h0 k
  refine ha σ s F C R H _ _ hs hS h0 fun x v F1 C1 H1 e1 S1 r1 h1 => ?_
  refine hl σ s F1 C1 R H1 _ _ (hs.mono e1) S1 h1 fun i F2 C2 H2 e2 S2 h2 => ?_
  refine hh σ s F2 C2 R H2 _ _ (hs.mono (e1.trans e2)) S2 h2 fun j F3 C3 H3 e3 S3 h3 => ?_
  exact hr v x i j F3 C3 R H3 Q P S3 (r1.mono (e2.trans e3)) h3 fun d u F4 C4 H4 e4 S4 r4 h4 => k d u F4 C4 H4 (((e1.trans e2).trans e3).trans e4) S4 r4 h4
def aCut : D → Option Int → Option Int → AH → (D → AH → Prop) → Prop := fun x lo hi C P => match x with
  | .str z => z.length ≤ sizeLine ∧ P (.str (cutS z lo hi)) C
  | .tup ds => P (.tup (cutD ds lo hi)) C
  | x => (match asLr C x with | some ds => P (.lst (cutD ds lo hi)) C | none => False)
def rCutA (K : PySem.W.Frag) : V → Option Int → Option Int → Hp → VK → Prop := fun x lo hi H Q => (rSlS x lo hi H Q ∨ rSlA K x lo hi H Q) ∨ rSlL K x lo hi H Q
theorem cutD_all {ds : List D} {lo hi : Option Int} (h : HT.sIx ds.length 0 lo = 0 ∧ HT.sIx ds.length ds.length hi = ds.length) : cutD ds lo hi = ds := by
  unfold cutD
  rw [h.1, h.2, List.drop_zero, Nat.sub_zero, List.take_length]
theorem sim_cut : SimRS B K (rCutA K) aCut := by
  intro v d lo hi F C R H Q P hS r1 h k
  unfold aCut at h
  split at h
  · cases r1
    exact .inl (.inl ⟨_, rfl, h.1, k _ _ F C H (Ex.refl F) hS (.str _) h.2⟩)
  · cases r1 with
    | @tup a xs us h1 q1 =>
      refine .inl (.inr ⟨a, xs, rfl, SqT.of (hS.ex _ _ h1), fun z => ?_, fun _ p hp => ?_⟩)
      · rw [q1.length] at z
        rw [cutD_all z] at h
        exact k _ _ F C H (Ex.refl F) hS (.tup h1 q1) h
      · have e := Ex.new (o := .tup (cutV xs lo hi)) (hS.freeF hp)
        exact k _ _ _ C _ e (hS.newF hp _) (.tup upd_same ((q1.cut lo hi).mono e)) h
  · split at h
    · rename_i ds q
      obtain ⟨a, xs, e1, h1, h2⟩ := asLr_ok hS r1 q
      refine .inr ⟨a, xs, e1, h1, fun p hp => ?_⟩
      have e := Ex.new (o := .lst (cutV xs lo hi)) (hS.freeF hp)
      exact k _ _ _ C _ e (hS.newF hp _) (.lst upd_same ((h2.cut lo hi).mono e)) h
    · exact h.elim
theorem ae_cut {e : Expr} {lo hi : Option Expr} {te : TE} {tl th : TO} {a : AE'} {l h : AO'} {p2 : Pos} (he : AE B X e te a) (hl : AO B X lo tl l) (hh : AO B X hi th h) (hK : X.K = K := by rfl) : AE B X (.Subscript e (.Slice lo hi none p2) pos) (tSl (rCutA K) te tl th) (aSl aCut a l h) := by
  subst hK
  exact ⟨pe_slice ((sl_str.or sl_tupA).or sl_list) he.pe hl.po hh.po, sim_sl sim_cut he.sim hl.sim hh.sim⟩
/-- xs[::-1], a list -/
def aRev : D → AH → (D → AH → Prop) → Prop := fun x C P => match asLr C x with | some ds => P (.lst ds.reverse) C | none => False
theorem ae_revL {e : Expr} {te : TE} {a : AE'} {k : Nat} {p1 p2 p3 : Pos} (he : AE B X e te a) (hK : X.K = K := by rfl) : AE B X (.Subscript e (.Slice none none (some (.UnaryOp .USub (.Constant (.int 1) k p1) p2)) p3) pos) (tRevL K te) (aUn aRev a) := by
  subst hK
  exact ⟨pe_revL he.pe, by
  intro σ s F C R H Q P hs hS h0 k
  refine he.sim σ s F C R H _ _ hs hS h0 fun x v F1 C1 H1 e1 S1 r1 h1 => ?_
  unfold aRev at h1
  split at h1
  · rename_i ds q
    obtain ⟨a, xs, e2, h2, h3⟩ := asLr_ok S1 r1 q
    refine ⟨a, xs, e2, h2, fun p hp => ?_⟩
    have e := Ex.new (o := .lst xs.reverse) (S1.freeF hp)
    exact k _ _ _ C1 _ (e1.trans e) (S1.newF hp _) (.lst upd_same (h3.reverse.mono e)) h1
  · exact h1.elim⟩

/-! ### calls of built-ins -/
structure ACa (B : Bs) (X : Cx) (f : Value) (r : List V → Hp → VK → Prop) (a : ASp) : Prop where
  op : CallR X f r
  sim : SimRL B X.K r a
def aCall (asp : ASp) (a : AA') : AE' := fun s C P => a s C fun ds C1 => asp ds C1 P
theorem sim_callB {n : Nat} {r : List V → Hp → VK → Prop} {ar : ASp} {ta : TA} {a : AA'} (hr : SimRL B K r ar) (ha : SimA B K n ta a) : SimE B K (tCB r ta) (aCall ar a) := by
  intro σ s F C R H Q P hs hS h k
  refine ha σ s F C R H _ _ hs hS h fun ds vs F1 C1 H1 e1 S1 r1 hl h1 => ?_
  exact hr vs ds F1 C1 R H1 Q P S1 r1 h1 fun d u F3 C3 H3 e3 S3 r3 h3 => k d u F3 C3 H3 (e1.trans e3) S3 r3 h3
section
variable {e : Expr} {es : List Expr} {n : Nat} {t : TA} {a : AA'} {r : List V → Hp → VK → Prop} {ar : ASp} {x : Str} {p : Pos} {id T : String}
theorem ae_callB (hc : ACa B X (.builtin id) r ar) (hm : X.mg x = none) (hv : bootBuiltins x = some (.builtin id)) (ha : AA B X (e :: es) n t a) (hg : Gl X x := by rfl) (hn : x ≠ "__name__" := by decide) (hdb : (x == ("__debug__" : Str)) = false := by decide)
    (he : starEach (e :: es) X.env = (false, eval e X.env) :: starEach es X.env := by rfl) (hpl : (backTo pos (starEach es X.env)).any (·.1) = false := by rfl) : AE B X (.Call (.Name x p) (e :: es) [] pos) (tCB r t) (aCall ar a) :=
  ⟨pe_callB hc.op hg hm hv ha.pa hn hdb he hpl, sim_callB hc.sim ha.sim⟩
theorem ae_callT (hc : ACa B X (.type T) r ar) (hm : X.mg x = none) (hv : bootBuiltins x = some (.type T)) (ha : AA B X (e :: es) n t a) (hg : Gl X x := by rfl) (hn : x ≠ "__name__" := by decide) (hdb : (x == ("__debug__" : Str)) = false := by decide)
    (he : starEach (e :: es) X.env = (false, eval e X.env) :: starEach es X.env := by rfl) (hpl : (backTo pos (starEach es X.env)).any (·.1) = false := by rfl) : AE B X (.Call (.Name x p) (e :: es) [] pos) (tCB r t) (aCall ar a) :=
  ⟨pe_callTy hc.op hg hm hv ha.pa hn hdb he hpl, sim_callB hc.sim ha.sim⟩
end
theorem asS_ok {F : Hp} {C : AH} {R H : Hp} {v : V} {d : D} {ds : List D} (hS : Sat B K F C R H) (r : Rep K F v d) (h : asS C d = some ds) : ∃ a xs, v = .ref a ∧ (SqL K H a xs ∨ SqT K H a xs) ∧ RepL K F xs ds := by
  cases d with
  | tup ws =>
    cases h
    obtain ⟨a, xs, e1, h1, h2⟩ := asT_ok hS r rfl
    exact ⟨a, xs, e1, .inr (SqT.of h1), h2⟩
  | _ =>
    obtain ⟨a, xs, e1, h1, h2⟩ := asLr_ok hS r (show asLr C _ = some ds from h)
    exact ⟨a, xs, e1, .inl h1, h2⟩
def aLen : ASp := fun ds C P => match ds with
  | [.str z] => z.length ≤ sizeLine ∧ P (.int z.length) C
  | [.ce q] => (match C q with | some (.lst us) => P (.int us.length) C | some (.dk us) => P (.int us.length) C | _ => False)
  | [.dk kvs] => P (.int kvs.length) C
  | [d] => (match asS C d with | some us => P (.int us.length) C | none => False)
  | _ => False
def rLenA (K : PySem.W.Frag) : List V → Hp → VK → Prop := fun xs H Q => (∃ x n, xs = [x] ∧ LenV K x H n ∧ Q (.int n) H) ∨ (∃ a kvs, xs = [V.ref a] ∧ H a = some (.dK kvs) ∧ Q (.int kvs.length) H)
theorem RepK.length {F : Hp} : ∀ {vs : List (Key × V)} {ds : List (Key × D)}, RepK K F vs ds → vs.length = ds.length
  | _, _, .nil => rfl
  | _, _, .cons _ t => by rw [List.length_cons, List.length_cons, RepK.length t]
theorem simLen : SimRL B K (rLenA K) aLen := by
  intro vs ds F C R H Q P hS r h k
  unfold aLen at h
  split at h
  · cases r with | cons r1 r2 => cases r2; cases r1; exact .inl ⟨_, _, rfl, ⟨h.1, rfl⟩, k _ _ F C H (Ex.refl F) hS (.int _) h.2⟩
  · cases r with
    | cons r1 r2 =>
      cases r2; cases r1
      split at h
      · rename_i e
        obtain ⟨_, o, h1, h2⟩ := hS.cell _ _ e
        cases h2 with
        | lst q => exact .inl ⟨_, _, rfl, .inl ⟨_, SqL.of h1, q.length.symm⟩, k _ _ F C H (Ex.refl F) hS (.int _) h⟩
      · rename_i e
        obtain ⟨_, o, h1, h2⟩ := hS.cell _ _ e
        cases h2 with
        | dk q => exact .inr ⟨_, _, rfl, h1, by rw [q.length]; exact k _ _ F C H (Ex.refl F) hS (.int _) h⟩
      · exact h.elim
  · cases r with | cons r1 r2 => cases r2; cases r1 with | dk e q => exact .inr ⟨_, _, rfl, hS.ex _ _ e, by rw [q.length]; exact k _ _ F C H (Ex.refl F) hS (.int _) h⟩
  · cases r with
    | cons r1 r2 =>
      cases r2
      split at h
      · rename_i us q
        obtain ⟨a, xs, e1, h1, h2⟩ := asS_ok hS r1 q
        subst e1
        rcases h1 with h1 | h1
        · exact .inl ⟨.ref a, _, rfl, .inl ⟨xs, h1, h2.length.symm⟩, k _ _ F C H (Ex.refl F) hS (.int _) h⟩
        · exact .inl ⟨.ref a, _, rfl, .inr ⟨xs, h1, h2.length.symm⟩, k _ _ F C H (Ex.refl F) hS (.int _) h⟩
      · exact h.elim
  · exact h.elim
theorem ac_len (hK : X.K = K := by rfl) : ACa B X (.builtin "len") (rLenA K) aLen := by
  subst hK
  exact ⟨call_len.or call_lenD, simLen⟩
def aAbs : ASp := fun ds C P => match ds with | [.int i] => P (.int (if i < 0 then -i else i)) C | _ => False
theorem ac_abs : ACa B X (.builtin "abs") (fun xs H Q => ∃ i, xs = [.int i] ∧ Q (.int (if i < 0 then -i else i)) H) aAbs := ⟨call_abs, by
  intro vs ds F C R H Q P hS r h k
  unfold aAbs at h
  split at h
  · cases r with | cons r1 r2 => cases r2; cases r1; exact ⟨_, rfl, k _ _ F C H (Ex.refl F) hS (.int _) h⟩
  · exact h.elim⟩
def aMax2 : ASp := fun ds C P => match ds with | [.int i, .int j] => P (.int (if j > i then j else i)) C | _ => False
def aMin2 : ASp := fun ds C P => match ds with | [.int i, .int j] => P (.int (if j < i then j else i)) C | _ => False
theorem ac_max2 (hc : X.calm = true := by rfl) : ACa B X (.builtin "max") (fun xs H Q => ∃ i j, xs = [.int i, .int j] ∧ Q (.int (if j > i then j else i)) H) aMax2 := ⟨call_max2 hc, by
  intro vs ds F C R H Q P hS r h k
  unfold aMax2 at h
  split at h
  · cases r with | cons r1 r2 => cases r2 with | cons r2 r3 => cases r3; cases r1; cases r2; exact ⟨_, _, rfl, k _ _ F C H (Ex.refl F) hS (.int _) h⟩
  · exact h.elim⟩
theorem ac_min2 (hc : X.calm = true := by rfl) : ACa B X (.builtin "min") (fun xs H Q => ∃ i j, xs = [.int i, .int j] ∧ Q (.int (if j < i then j else i)) H) aMin2 := ⟨call_min2 hc, by
  intro vs ds F C R H Q P hS r h k
  unfold aMin2 at h
  split at h
  · cases r with | cons r1 r2 => cases r2 with | cons r2 r3 => cases r3; cases r1; cases r2; exact ⟨_, _, rfl, k _ _ F C H (Ex.refl F) hS (.int _) h⟩
  · exact h.elim⟩
def aInt : ASp := fun ds C P => match ds with | [.int i] => P (.int i) C | [.bl b] => P (.int (if b then 1 else 0)) C | _ => False
theorem ac_int : ACa B X (.type "int") (fun xs H Q => (∃ i, xs = [.int i] ∧ Q (.int i) H) ∨ ∃ k, xs = [.bl k] ∧ Q (.int (if k then 1 else 0)) H) aInt := ⟨call_int1, by
  intro vs ds F C R H Q P hS r h k
  unfold aInt at h
  split at h
  · cases r with | cons r1 r2 => cases r2; cases r1; exact .inl ⟨_, rfl, k _ _ F C H (Ex.refl F) hS (.int _) h⟩
  · cases r with | cons r1 r2 => cases r2; cases r1; exact .inr ⟨_, rfl, k _ _ F C H (Ex.refl F) hS (.int _) h⟩
  · exact h.elim⟩
/-- list(xs), tuple(xs) of a list, a tuple -/
def aListOf : ASp := fun ds C P => match ds with | [d] => (match asS C d with | some us => P (.lst us) C | none => False) | _ => False
def aListM : ASp := fun ds C P => match ds with | [d] => (match asS C d with | some us => ∀ p, C p = none → P (.ce p) (put C p (.lst us)) | none => False) | _ => False
def aTupleOf : ASp := fun ds C P => match ds with | [.tup us] => P (.tup us) C | [d] => (match asS C d with | some us => P (.tup us) C | none => False) | _ => False
theorem ac_list (hK : X.K = K := by rfl) : ACa B X (.type "list") (fun xs H Q => ∃ p ys, xs = [.ref p] ∧ (SqL K H p ys ∨ SqT K H p ys) ∧ ∀ l, H l = none → Q (.ref l) (upd H l (.lst ys))) aListOf := by
  subst hK
  exact ⟨call_list_of, by
  intro vs ds F C R H Q P hS r h k
  unfold aListOf at h
  split at h
  · cases r with
    | cons r1 r2 =>
      cases r2
      split at h
      · rename_i us q
        obtain ⟨a, xs, e1, h1, h2⟩ := asS_ok hS r1 q
        refine ⟨a, xs, by rw [e1], h1, fun p hp => ?_⟩
        have e := Ex.new (o := .lst xs) (hS.freeF hp)
        exact k _ _ _ C _ e (hS.newF hp _) (.lst upd_same (h2.mono e)) h
      · exact h.elim
  · exact h.elim⟩
theorem ac_listM (hK : X.K = K := by rfl) : ACa B X (.type "list") (fun xs H Q => ∃ p ys, xs = [.ref p] ∧ (SqL K H p ys ∨ SqT K H p ys) ∧ ∀ l, H l = none → Q (.ref l) (upd H l (.lst ys))) aListM := by
  subst hK
  exact ⟨call_list_of, by
  intro vs ds F C R H Q P hS r h k
  unfold aListM at h
  split at h
  · cases r with
    | cons r1 r2 =>
      cases r2
      split at h
      · rename_i us q
        obtain ⟨a, xs, e1, h1, h2⟩ := asS_ok hS r1 q
        refine ⟨a, xs, by rw [e1], h1, fun p hp => ?_⟩
        exact k _ _ _ _ _ (Ex.refl F) (hS.newC hp (.lst h2)) (.ce p) (h p (hS.freeC hp))
      · exact h.elim
  · exact h.elim⟩
theorem ac_tuple (hK : X.K = K := by rfl) : ACa B X (.type "tuple") (fun xs H Q => ∃ p ys, xs = [.ref p] ∧ ((SqL K H p ys ∧ ∀ l, H l = none → Q (.ref l) (upd H l (.tup ys))) ∨ (SqT K H p ys ∧ Q (.ref p) H))) aTupleOf := by
  subst hK
  exact ⟨call_tuple_of, by
  intro vs ds F C R H Q P hS r h k
  unfold aTupleOf at h
  split at h
  · cases r with
    | cons r1 r2 =>
      cases r2
      cases r1 with
      | tup h1 h2 => exact ⟨_, _, rfl, .inr ⟨SqT.of (hS.ex _ _ h1), k _ _ F C H (Ex.refl F) hS (.tup h1 h2) h⟩⟩
  · rename_i d hd
    cases r with
    | cons r1 r2 =>
      cases r2
      split at h
      · rename_i us q
        have q' : asLr C d = some us := by
          cases d <;> first | exact q | exact absurd rfl (hd _)
        obtain ⟨a, xs, e1, h1, h2⟩ := asLr_ok hS r1 q'
        refine ⟨a, xs, by rw [e1], .inl ⟨h1, fun p hp => ?_⟩⟩
        have e := Ex.new (o := .tup xs) (hS.freeF hp)
        exact k _ _ _ C _ e (hS.newF hp _) (.tup upd_same (h2.mono e)) h
      · exact h.elim
  · exact h.elim⟩
/-- all, any, sum of a list -/
def blsD : List D → Option (List Bool)
  | [] => some []
  | .bl b :: ds => (blsD ds).map (b :: ·)
  | _ => none
def intsD : List D → Option (List Int)
  | [] => some []
  | .int b :: ds => (intsD ds).map (b :: ·)
  | _ => none
def strsD : List D → Option (List Str)
  | [] => some []
  | .str b :: ds => (strsD ds).map (b :: ·)
  | _ => none
theorem bls_ok : ∀ {ds : List D} {bs : List Bool}, blsD ds = some bs → ds = bs.map .bl
  | [], _, h => by cases h; rfl
  | .bl b :: ds, bs, h => by
    simp only [blsD] at h
    cases q : blsD ds with
    | none => rw [q] at h; cases h
    | some cs => rw [q] at h; cases h; rw [bls_ok q]; rfl
  | .non :: _, _, h => by cases h
  | .int _ :: _, _, h => by cases h
  | .str _ :: _, _, h => by cases h
  | .lst _ :: _, _, h => by cases h
  | .tup _ :: _, _, h => by cases h
  | .dk _ :: _, _, h => by cases h
  | .scr _ :: _, _, h => by cases h
  | .ce _ :: _, _, h => by cases h
theorem ints_ok : ∀ {ds : List D} {bs : List Int}, intsD ds = some bs → ds = bs.map .int
  | [], _, h => by cases h; rfl
  | .int b :: ds, bs, h => by
    simp only [intsD] at h
    cases q : intsD ds with
    | none => rw [q] at h; cases h
    | some cs => rw [q] at h; cases h; rw [ints_ok q]; rfl
  | .non :: _, _, h => by cases h
  | .bl _ :: _, _, h => by cases h
  | .str _ :: _, _, h => by cases h
  | .lst _ :: _, _, h => by cases h
  | .tup _ :: _, _, h => by cases h
  | .dk _ :: _, _, h => by cases h
  | .scr _ :: _, _, h => by cases h
  | .ce _ :: _, _, h => by cases h
theorem strs_ok : ∀ {ds : List D} {bs : List Str}, strsD ds = some bs → ds = bs.map .str
  | [], _, h => by cases h; rfl
  | .str b :: ds, bs, h => by
    simp only [strsD] at h
    cases q : strsD ds with
    | none => rw [q] at h; cases h
    | some cs => rw [q] at h; cases h; rw [strs_ok q]; rfl
  | .non :: _, _, h => by cases h
  | .bl _ :: _, _, h => by cases h
  | .int _ :: _, _, h => by cases h
  | .lst _ :: _, _, h => by cases h
  | .tup _ :: _, _, h => by cases h
  | .dk _ :: _, _, h => by cases h
  | .scr _ :: _, _, h => by cases h
  | .ce _ :: _, _, h => by cases h
@[simp] theorem bls_map (bs : List Bool) : blsD (bs.map D.bl) = some bs := by
  induction bs with
  | nil => rfl
  | cons b bs ih => simp [blsD, ih]
@[simp] theorem ints_map (bs : List Int) : intsD (bs.map D.int) = some bs := by
  induction bs with
  | nil => rfl
  | cons b bs ih => simp [intsD, ih]
@[simp] theorem strs_map (bs : List Str) : strsD (bs.map D.str) = some bs := by
  induction bs with
  | nil => rfl
  | cons b bs ih => simp [strsD, ih]
def aAll : ASp := fun ds C P => match ds with | [d] => (match (asLr C d).bind blsD with | some bs => P (.bl (bs.all id)) C | none => False) | _ => False
def aAny : ASp := fun ds C P => match ds with | [d] => (match (asLr C d).bind blsD with | some bs => P (.bl (bs.any id)) C | none => False) | _ => False
def aSum : ASp := fun ds C P => match ds with | [d] => (match (asLr C d).bind intsD with | some bs => P (.int bs.sum) C | none => False) | _ => False
theorem ac_all (hc : X.calm = true := by rfl) (hK : X.K = K := by rfl) : ACa B X (.builtin "all") (rAll K) aAll := by
  subst hK
  exact ⟨cr_all hc, by
  intro vs ds F C R H Q P hS r h k
  unfold aAll at h
  split at h
  · cases r with
    | cons r1 r2 =>
      cases r2
      split at h
      · rename_i bs q
        obtain ⟨us, q1, q2⟩ := Option.bind_eq_some_iff.mp q
        obtain ⟨a, xs, e1, h1, h2⟩ := asLr_ok hS r1 q1
        rw [bls_ok q2] at h2
        have e3 := h2.ofBls
        subst e3
        exact ⟨a, bs, by rw [e1], h1, k _ _ F C H (Ex.refl F) hS (.bl _) h⟩
      · exact h.elim
  · exact h.elim⟩
theorem ac_any (hc : X.calm = true := by rfl) (hK : X.K = K := by rfl) : ACa B X (.builtin "any") (rAny K) aAny := by
  subst hK
  exact ⟨cr_any hc, by
  intro vs ds F C R H Q P hS r h k
  unfold aAny at h
  split at h
  · cases r with
    | cons r1 r2 =>
      cases r2
      split at h
      · rename_i bs q
        obtain ⟨us, q1, q2⟩ := Option.bind_eq_some_iff.mp q
        obtain ⟨a, xs, e1, h1, h2⟩ := asLr_ok hS r1 q1
        rw [bls_ok q2] at h2
        have e3 := h2.ofBls
        subst e3
        exact ⟨a, bs, by rw [e1], h1, k _ _ F C H (Ex.refl F) hS (.bl _) h⟩
      · exact h.elim
  · exact h.elim⟩
theorem ac_sum (hc : X.calm = true := by rfl) (hK : X.K = K := by rfl) : ACa B X (.builtin "sum") (rSum K) aSum := by
  subst hK
  exact ⟨cr_sum hc, by
  intro vs ds F C R H Q P hS r h k
  unfold aSum at h
  split at h
  · cases r with
    | cons r1 r2 =>
      cases r2
      split at h
      · rename_i bs q
        obtain ⟨us, q1, q2⟩ := Option.bind_eq_some_iff.mp q
        obtain ⟨a, xs, e1, h1, h2⟩ := asLr_ok hS r1 q1
        rw [ints_ok q2] at h2
        have e3 := h2.ofInts
        subst e3
        exact ⟨a, bs, by rw [e1], h1, k _ _ F C H (Ex.refl F) hS (.int _) h⟩
      · exact h.elim
  · exact h.elim⟩
/-! ### isinstance(e, T) -/
def kindOf (C : AH) : D → Option String
  | .non => some "NoneType" | .bl _ => some "bool" | .int _ => some "int" | .str _ => some "str" | .lst _ => some "list" | .tup _ => some "tuple" | .dk _ => some "dict" | .scr _ => some "list"
  | .ce p => match C p with | some (.lst _) => some "list" | some (.dk _) => some "dict" | some (.dt _) => some "dict" | none => none
theorem kindOf_ok {F : Hp} {C : AH} {R H : Hp} {v : V} {d : D} {t : String} (hS : Sat B K F C R H) (r : Rep K F v d) (h : kindOf C d = some t) : TyX K H v (.type t) := by
  cases r with
  | non => cases h; exact .base .non
  | bl b => cases h; exact .base (.bl b)
  | int i => cases h; exact .base (.int i)
  | str x => cases h; exact .base (.str x)
  | lst e q => cases h; exact .base (.lst (hS.ex _ _ e))
  | tup e q => cases h; exact .base (.tup (hS.ex _ _ e))
  | dk e q => cases h; exact .base (.dK (hS.ex _ _ e))
  | scr e =>
    cases h
    rcases hS.ex.l e with (e | ⟨o, e⟩) | ⟨o, its, n, e, c, _⟩
    · exact .base (.lst e)
    · exact .base (.frz e)
    · exact .kList e c
  | ce p =>
    simp only [kindOf] at h
    split at h
    · rename_i e; cases h
      obtain ⟨_, o, h1, h2⟩ := hS.cell p _ e
      cases h2; exact .base (.lst h1)
    · rename_i e; cases h
      obtain ⟨_, o, h1, h2⟩ := hS.cell p _ e
      cases h2; exact .base (.dK h1)
    · rename_i e; cases h
      obtain ⟨_, o, h1, h2⟩ := hS.cell p _ e
      cases h2; exact .base (.dT h1)
    · cases h
def isT (T t : String) : Bool := t == T || (t == "bool" && T == "int")
theorem isT_ok : ∀ t ∈ ["NoneType", "bool", "int", "str", "list", "tuple", "dict"], ∀ T ∈ ["bool", "int", "str", "list", "tuple", "dict"], kitB t T = some (isT T t) := by decide +kernel
theorem kindOf_mem {C : AH} {d : D} {t : String} (h : kindOf C d = some t) : t ∈ ["NoneType", "bool", "int", "str", "list", "tuple", "dict"] := by
  unfold kindOf at h
  split at h <;> first | (cases h; decide) | (split at h <;> first | (cases h; decide) | cases h)
def aIsi (T : String) (a : AE') : AE' := fun s C P => a s C fun x C1 => match kindOf C1 x with | some t => P (.bl (isT T t)) C1 | none => False
theorem ae_isi {e : Expr} {te : TE} {a : AE'} {T : Str} {Tn : String} {p p2 : Pos} (h : AE B X e te a) (hm : X.mg "isinstance" = none) (hmT : X.mg T = none) (hv : bootBuiltins T = some (.type Tn)) (hT : Tn ∈ ["bool", "int", "str", "list", "tuple", "dict"] := by decide)
    (hg : Gl X "isinstance" := by rfl) (hgT : Gl X T := by rfl) (hb : bootBuiltins "isinstance" = some (.builtin "isinstance") := by decide +kernel) (hnT : T ≠ "__name__" := by decide) (hdT : (T == ("__debug__" : Str)) = false := by decide)
    (he : starEach [e, .Name T p2] X.env = (false, eval e X.env) :: starEach [.Name T p2] X.env := by rfl) (hpl : (backTo pos (starEach [.Name T p2] X.env)).any (·.1) = false := by rfl) (h2 : starEach [.Name T p2] X.env = (false, eval (.Name T p2) X.env) :: starEach [] X.env := by rfl) (hK : X.K = K := by rfl) :
    AE B X (.Call (.Name "isinstance" p) [e, .Name T p2] [] pos) (tCB (rIsi K) (tCons te (tCons (tC (.ty Tn)) tNil))) (aIsi Tn a) := by
  subst hK
  exact ⟨pe_callB call_isi hg hm hb (pa_cons h.pe (pa_cons (pe_bltn hgT hmT hv rfl hnT hdT) pa_nil h2) he) (by decide) (by decide) he hpl, by
    intro σ s F C R H Q P hs hS h0 k
    refine h.sim σ s F C R H _ _ hs hS h0 fun x v F1 C1 H1 e1 S1 r1 h1 => ?_
    split at h1
    · rename_i t q
      exact ⟨v, .ty Tn, .type t, .type Tn, isT Tn t, rfl, .ty Tn, kindOf_ok S1 r1 q, kit_ty (isT_ok t (kindOf_mem q) Tn hT), k _ _ F1 C1 H1 e1 S1 (.bl _) h1⟩
    · exact h1.elim⟩
end
end AL

namespace AL
open PySem PySem.Spec L2
variable {B : Bs}
open PyProof.Rows (envOfC)
section
variable {X : Cx} {pos : Pos} {K : PySem.W.Frag}
/-! ### defs and their calls -/
def spOf (K : PySem.W.Frag) (n : Nat) (asp : ASp) : Sp := fun vs H Q _ => vs.length = n ∧ ∃ F C R ds P, Sat Bs.nil K F C R H ∧ RepL K F vs ds ∧ asp ds C P ∧ ∀ d v F' C' H', Ex F F' → Sat Bs.nil K F' C' R H' → Rep K F' v d → P d C' → Q v H'
/-- a def's promise, where no guard stands (so that repr may be asked) -/
structure FnG (P : Program) (w : World) (K : PySem.W.Frag) (mg : Str → Option Value) (base : Heap) (k : Nat) (f : Addr) (fd : FuncData) (ps : List Str) (sp : Sp) : Prop where
  len : ∀ vs H Q E, sp vs H Q E → vs.length = ps.length
  run : ∀ (A : Around) (out : List Env) (s : Shared) (H : Hp) (args : Args) (us : List Value) (vs : List V) (Q : VK) (E : XK), Room k A → A.guards = some [] → Env0 P w K mg base A out s H →
    BindsTo s fd args (ps.zip us) → Vals vs us → sp vs H Q E → codeAny (model P w) A (.call (.ref f) args) (CR (L2.CX P w) out P w H s Q E) s
theorem FnG.imp {P : Program} {w : World} {K : PySem.W.Frag} {mg : Str → Option Value} {base : Heap} {k : Nat} {f : Addr} {fd : FuncData} {ps : List Str} {sp sp' : Sp} (G : FnG P w K mg base k f fd ps sp) (h : ∀ vs H Q E, sp' vs H Q E → sp vs H Q E) : FnG P w K mg base k f fd ps sp' :=
  ⟨fun vs H Q E q => G.len vs H Q E (h _ _ _ _ q), fun A out s H args us vs Q E hr hg he hb hv hs => G.run A out s H args us vs Q E hr hg he hb hv (h _ _ _ _ hs)⟩
theorem FnG.up {P : Program} {w : World} {K : PySem.W.Frag} {mg : Str → Option Value} {base : Heap} {j k : Nat} {f : Addr} {fd : FuncData} {ps : List Str} {sp : Sp} (G : FnG P w K mg base j f fd ps sp) (h : j ≤ k) : FnG P w K mg base k f fd ps sp :=
  ⟨G.len, fun A out s H args us vs Q E hr hg he hb hv hs => G.run A out s H args us vs Q E (hr.mono h) hg he hb hv hs⟩
/-- by its body -/
theorem fnG_of {P : Program} {w : World} {K : PySem.W.Frag} {mg : Str → Option Value} {base : Heap} {x qual : Str} {st : Stmt} {f : Addr} {fd : FuncData} {N ps : List Str} {k : Nat} {sp : Sp} (F : L2.Fun K x qual st f fd) (S : FnScope N ps (defScope st)) (len : ∀ vs H Q E, sp vs H Q E → vs.length = ps.length)
    (hbody : ∀ (cdv : Value) (A : Around) (out : List Env) (s : Shared) (H : Hp) (vs : List V) (Q : VK) (E : XK), Room k (A.deeper (envOfC qual (defScope st) s.heap.objs.size f cdv)) → A.guards = some [] → sp vs H Q E →
      ∃ t, PSs (cxOf (L2.CX P w) P w K mg base N qual (defScope st) f cdv A out s H E) (defBody st) t ∧ t { nx := fun _ H1 => Q .non H1, rt := Q } (start N vs) H) : FnG P w K mg base (k + 1) f fd ps sp := by
  obtain ⟨oc, od, kV, doc, pm, an, cdv, ct, osl, rfl, lk, hcd⟩ := F.ex
  refine ⟨len, fun A out s H args us vs Q E hr hg e0 hb rv hsp => ?_⟩
  have kin := e0.mod.kin.keeps fun b o e => (e0.bs b o e).1
  have nol := e0.mod.nolimit.keeps fun b o e => (e0.bs b o e).1
  have knd : ∀ z ∈ ps.zip us, (defScope st).names.lookup z.1 = some .local ∨ ((defScope st).names.lookup z.1 = some .cell ∧ ((cellsFrom (s.heap.objs.size + 1) (defScope st).names []).lookup z.1).isSome = true) := by
    intro z hz
    obtain ⟨n, v⟩ := z
    exact (S.par n (List.of_mem_zip hz).1).elim .inl fun q => .inr ⟨q, PySem.W.cellsFrom_some _ _ _ (.inl q)⟩
  refine codeAny_call_function hr.depth (kin _ _ lk) rfl S.co S.gen rfl (PySem.W.codeRec_of kin hcd) (hb _ _ _ _ (wpAny_newFunctionEnv_cells S.kind knd fun env he s1 made => ?_))
  subst he
  refine ⟨nol.keeps made.toInCall.keep, codeAny_func ?_⟩
  obtain ⟨t, ht, q0⟩ := hbody cdv A out s H vs Q E (hr.deeper _) hg hsp
  refine wpAny_mono (ht.run [] s1 (start N vs) H _ (inv_start S hr.hd e0 (len _ _ _ _ hsp) rv made) q0) (fun fl s2 z => ?_) fun _ _ z => z
  have done : ∀ {σ2 : L2.St} {H2 : Hp} {v : V} {u : Value}, Inv (cxOf (L2.CX P w) P w K mg base N qual (defScope st) f cdv A out s H E) [] σ2 H2 s2 → RelV v u → Q v H2 → CE out P w H s Q u s2 := fun J r q => ⟨_, _, J.os, J.bare, J.base, J.hok, r, q⟩
  cases fl with
  | next => obtain ⟨σ2, H2, J, q⟩ := z; exact done (v := .non) (u := .none) J rfl q
  | ret u => obtain ⟨v, σ2, H2, J, r, q⟩ := z; exact done J r q
  | brk => obtain ⟨_, _, _, q⟩ := z; exact q.elim
  | cont => obtain ⟨_, _, _, q⟩ := z; exact q.elim
section
variable {k : Nat} {f : Addr} {fd : FuncData} {ps : List Str} {sp : Sp} {E : L2.St → XK} {x : Str} {p : Pos} {e : Expr} {es : List Expr} {t : TA}
theorem run_G {pins : List (Addr × Obj)} {σ : L2.St} {H : Hp} {s : Shared} {Q : VK} {us : List Value} {vs : List V} (G : FnG X.prog X.w X.K X.mg X.base k f fd ps sp) (hr : Room k X.A) (hgd : X.A.guards = some []) (hb : Binds X.K fd ps []) (hx : PassesAt (L2.CX X.prog X.w) X σ (E σ))
    (I : Inv X pins σ H s) (r : Vals vs us) (h : sp vs H Q (E σ)) : wpAny (model X.prog X.w) X.A (call (.ref f) us) (EP X pins σ Q) X.xe s := by
  have hl : us.length = ps.length := r.length.symm.trans (G.len _ _ _ _ h)
  have b := hb s us I.kIn ((congrArg List.length (List.append_nil us)).trans hl)
  rw [List.append_nil] at b
  refine wpAny_call (codeAny_mono (G.run X.A X.stack s H ⟨us, []⟩ us vs Q (E σ) hr hgd I.env0 b r h) fun res s2 z => ?_)
  match res, z with
  | .error e, z => exact hx pins H s e s2 I z
  | .ok (.ret u), z => exact I.after z
  | .ok .next, z => exact False.elim z
  | .ok .brk, z => exact False.elim z
  | .ok .cont, z => exact False.elim z
theorem pe_callG (G : FnG X.prog X.w X.K X.mg X.base k f fd ps sp) (hr : Room k X.A) (hgd : X.A.guards = some []) (hg : Gl X x) (hm : X.mg x = some (.ref f)) (hk : PySem.W.keepIn X.K (.ref f) = true) (hb : Binds X.K fd ps []) (hx : ∀ σ, PassesAt (L2.CX X.prog X.w) X σ (E σ))
    (ha : PA X (e :: es) t) (hdb : (x == ("__debug__" : Str)) = false := by decide) (he : starEach (e :: es) X.env = (false, eval e X.env) :: starEach es X.env := by rfl) (hpl : (backTo pos (starEach es X.env)).any (·.1) = false := by rfl) : PE X (.Call (.Name x p) (e :: es) [] pos) (tCallS sp E t) :=
  ⟨fun pins s σ H Q I h => wpAny_Call_Name_kw (ld_glob I hg hm (PySem.W.callWith_K (h₀ := X.base) I.ok.mod.kin hk (thn (ha.run pos pins s σ H _ I h) fun us s1 ⟨vs, H1, I1, r, q⟩ => ⟨I1.kIn, run_G G hr hgd hb (hx σ) I1 r q⟩) he hpl) hdb)⟩
theorem pe_callG0 (G : FnG X.prog X.w X.K X.mg X.base k f fd ps sp) (hr : Room k X.A) (hgd : X.A.guards = some []) (hg : Gl X x) (hm : X.mg x = some (.ref f)) (hk : PySem.W.keepIn X.K (.ref f) = true) (hb : Binds X.K fd ps []) (hx : ∀ σ, PassesAt (L2.CX X.prog X.w) X σ (E σ))
    (hdb : (x == ("__debug__" : Str)) = false := by decide) : PE X (.Call (.Name x p) [] [] pos) (tCallS sp E tNil) :=
  ⟨fun pins s σ H Q I h => wpAny_Call_Name_kw (ld_glob I hg hm (PySem.W.callWith_K0 I.kIn hk (run_G (us := []) G hr hgd hb (hx σ) I .nil h)) hdb)⟩
end
abbrev E0S : L2.St → XK := fun _ _ _ _ => False
theorem passG {X : Cx} : ∀ σ, PassesAt (L2.CX X.prog X.w) X σ (E0S σ) := fun _ _ _ _ _ _ _ h => by
  obtain ⟨_, _, _, _, _, _, _, _, _, _, _, _, z⟩ := h
  exact z.elim
structure Cal (P : Program) (w : World) (K : PySem.W.Frag) (mg : Str → Option Value) (base : Heap) (k : Nat) (x : Str) (n : Nat) (asp : ASp) : Prop where
  ex : ∃ (f : Addr) (fd : FuncData) (ps : List Str), FnG P w K mg base k f fd ps (spOf K n asp) ∧ mg x = some (.ref f) ∧ PySem.W.keepIn K (.ref f) = true ∧ Binds K fd ps []
theorem sim_call {n : Nat} {asp : ASp} {E : L2.St → XK} {ta : TA} {a : AA'} (ha : SimA B K n ta a) : SimE B K (tCallS (spOf K n asp) E ta) (aCall asp a) := by
  intro σ s F C R H Q P hs hS h k
  refine ha σ s F C R H _ _ hs hS h fun ds vs F1 C1 H1 e1 S1 r1 hl h1 => ?_
  exact ⟨by rw [r1.length, hl], F1, C1, R, ds, P, S1.nil, r1, h1, fun d v F2 C2 H2 e2 S2 r2 h2 => k d v F2 C2 H2 (e1.trans e2) (S1.back e2 S2) r2 h2⟩
section
variable {e : Expr} {es : List Expr} {n : Nat} {t : TA} {a : AA'} {x : Str} {p : Pos} {asp : ASp} {k j : Nat}
theorem ae_call (c : Cal X.prog X.w X.K X.mg X.base k x n asp) (hr : Room j X.A) (hgd : X.A.guards = some []) (ha : AA B X (e :: es) n t a) (hk : k ≤ j := by decide) (hg : Gl X x := by rfl)
    (hdb : (x == ("__debug__" : Str)) = false := by decide) (he : starEach (e :: es) X.env = (false, eval e X.env) :: starEach es X.env := by rfl) (hpl : (backTo pos (starEach es X.env)).any (·.1) = false := by rfl) (hK : X.K = K := by rfl) :
    AE B X (.Call (.Name x p) (e :: es) [] pos) (tCallS (spOf K n asp) E0S t) (aCall asp a) := by
  subst hK
  exact ⟨by
  obtain ⟨f, fd, ps, F, hm, kp, b⟩ := c.ex
  exact pe_callG F (hr.mono hk) hgd hg hm kp b passG ha.pa hdb he hpl, sim_call ha.sim⟩
theorem ae_call0 (c : Cal X.prog X.w X.K X.mg X.base k x 0 asp) (hr : Room j X.A) (hgd : X.A.guards = some []) (hk : k ≤ j := by decide) (hg : Gl X x := by rfl)
    (hdb : (x == ("__debug__" : Str)) = false := by decide) (hK : X.K = K := by rfl) : AE B X (.Call (.Name x p) [] [] pos) (tCallS (spOf K 0 asp) E0S tNil) (aCall asp aNil) := by
  subst hK
  exact ⟨by
  obtain ⟨f, fd, ps, F, hm, kp, b⟩ := c.ex
  exact pe_callG0 F (hr.mono hk) hgd hg hm kp b passG hdb, sim_call sim_nil⟩
end
/-- a def's body as what the def does -/
def aBody (n : Nat) (b : AS') : ASp := fun ds C P => b ⟨fun _ C' => P .non C', P, fun _ _ => False, fun _ _ => False⟩ (ds.map some ++ List.replicate (n - ds.length) none) C
theorem fnA {P : Program} {w : World} {K : PySem.W.Frag} {mg : Str → Option Value} {base : Heap} {x qual : Str} {st : Stmt} {f : Addr} {fd : FuncData} {N ps : List Str} {k : Nat} {b : AS'} {asp : ASp} (F : L2.Fun K x qual st f fd) (S : FnScope N ps (defScope st))
    (hbody : ∀ (cdv : Value) (A : Around) (outer : List Env) (s : Shared) (H : Hp) (E : XK), Room k (A.deeper (envOfC qual (defScope st) s.heap.objs.size f cdv)) → A.guards = some [] → ∃ ts, ASs Bs.nil (cxOf (L2.CX P w) P w K mg base N qual (defScope st) f cdv A outer s H E).nox (defBody st) ts b)
    (h : ∀ ds C P, ds.length = ps.length → asp ds C P → aBody N.length b ds C P) : FnG P w K mg base (k + 1) f fd ps (spOf K ps.length asp) := by
  refine fnG_of F S (fun vs H Q E z => z.1) (fun cdv A outer s H vs Q E hr hg z => ?_)
  obtain ⟨ts, hps⟩ := hbody cdv A outer s H E hr hg
  obtain ⟨hl, F1, C, R, ds, P1, hS, hR, ha, hk⟩ := z
  refine ⟨ts, hps.ps.nox, ?_⟩
  have hb := h ds C P1 (by rw [← hR.length, hl]) ha
  refine hps.sim { nx := fun _ H' => Q .non H', rt := Q } ⟨fun _ C' => P1 .non C', P1, fun _ _ => False, fun _ _ => False⟩ _ _ F1 C R H ⟨fun s σ F' C' H' e _ S h => ?_, fun d v F' C' H' e r S h => ?_, fun _ _ _ _ _ _ _ _ h => h.elim, fun _ _ _ _ _ _ _ _ h => h.elim⟩ (Slo.start hR N.length) hS hb
  · exact hk .non .non F' C' H' e S .non h
  · exact hk d v F' C' H' e S r h
theorem calA {P : Program} {w : World} {K : PySem.W.Frag} {mg : Str → Option Value} {base : Heap} {x qual : Str} {st : Stmt} {f : Addr} {fd : FuncData} {N ps : List Str} {k n : Nat} {b : AS'} {asp : ASp} (F : L2.Fun K x qual st f fd) (S : FnScope N ps (defScope st)) (hn : ps.length = n) (hm : mg x = some (.ref f)) (hb : Binds K fd ps [])
    (hbody : ∀ (cdv : Value) (A : Around) (outer : List Env) (s : Shared) (H : Hp) (E : XK), Room k (A.deeper (envOfC qual (defScope st) s.heap.objs.size f cdv)) → A.guards = some [] → ∃ ts, ASs Bs.nil (cxOf (L2.CX P w) P w K mg base N qual (defScope st) f cdv A outer s H E).nox (defBody st) ts b)
    (h : ∀ ds C P, ds.length = n → asp ds C P → aBody N.length b ds C P) : Cal P w K mg base (k + 1) x n asp := by
  subst hn
  exact ⟨f, fd, ps, fnA F S hbody h, hm, F.kp, hb⟩

/-! ### methods of built-in types -/
structure AMt (B : Bs) (X : Cx) (id : String) (r : V → List V → Hp → VK → Prop) (a : D → ASp) : Prop where
  op : MtR X id r
  sim : SimRM B X.K r a
def isTy (T : String) (C : AH) (d : D) : Bool := match d with
  | .str _ => T == "str"
  | .lst _ => T == "list"
  | .scr _ => T == "list"
  | .dk _ => T == "dict"
  | .ce p => (match C p with | some (.lst _) => T == "list" | some (.dk _) => T == "dict" | _ => false)
  | _ => false
theorem isTy_ok {F : Hp} {C : AH} {R H : Hp} {v : V} {d : D} {T : String} (hS : Sat B K F C R H) (r : Rep K F v d) (h : isTy T C d = true) : tyV K T v H := by
  cases r with
  | str x => simpa [isTy, tyV] using h
  | lst e q => exact .inl ⟨by simpa [isTy] using h, _, SqL.of (hS.ex _ _ e)⟩
  | scr e => exact .inl ⟨by simpa [isTy] using h, _, hS.ex.l e⟩
  | dk e q => exact .inr (.inr (.inl ⟨by simpa [isTy] using h, .inl ⟨_, hS.ex _ _ e⟩⟩))
  | ce p =>
    simp only [isTy] at h
    split at h
    · rename_i e
      obtain ⟨_, o, h1, h2⟩ := hS.cell p _ e
      cases h2; exact .inl ⟨by simpa using h, _, SqL.of h1⟩
    · rename_i e
      obtain ⟨_, o, h1, h2⟩ := hS.cell p _ e
      cases h2; exact .inr (.inr (.inl ⟨by simpa using h, .inl ⟨_, h1⟩⟩))
    · cases h
  | _ => cases h
def aMeth (T : String) (m : D → ASp) (o : AE') (a : AA') : AE' := fun s C P => o s C fun x C1 => isTy T C1 x = true ∧ a s C1 fun ds C2 => m x ds C2 P
def aMeth0 (T : String) (m : D → ASp) (o : AE') : AE' := fun s C P => o s C fun x C1 => isTy T C1 x = true ∧ m x [] C1 P
section
variable {o e : Expr} {es : List Expr} {n : Nat} {to : TE} {t : TA} {ao : AE'} {a : AA'} {T id : String} {name : Str} {r : V → List V → Hp → VK → Prop} {ar : D → ASp} {apos cpos : Pos}
theorem ae_meth (pa : PlainAttrs T) (slot : Slot T name id) (hty : typeOf (.builtin id) = pure (.type "method_descriptor")) (hm : AMt B X id r ar) (ho : AE B X o to ao) (ha : AA B X (e :: es) n t a)
    (hbase : attributeBase o name X.env (eval o X.env) = eval o X.env := by rfl)
    (hfew : ((backTo cpos (starEach (e :: es) X.env)).all (fun x => !x.1) && (backToKw cpos (keywordEach [] X.env)).all (fun x => x.1.isSome)
      && decide ((e :: es).length + ([] : List Keyword).length + (if ([] : List Keyword).isEmpty then 0 else 1) < 30)) = true := by rfl)
    (hline : (apos.endLine == cpos.line) = true := by rfl) (hs : starEach (e :: es) X.env = (false, eval e X.env) :: starEach es X.env := by rfl) (hplain : (backTo cpos (starEach es X.env)).any (·.1) = false := by rfl) (hK : X.K = K := by rfl) :
    AE B X (.Call (.Attribute o name apos) (e :: es) [] cpos) (tBM K T r to t) (aMeth T ar ao a) := by
  subst hK
  exact ⟨pe_bm pa slot hty hm.op ho.pe ha.pa hbase hfew hline hs hplain, by
  intro σ s F C R H Q P hs hS h0 k
  refine ho.sim σ s F C R H _ _ hs hS h0 fun x v F1 C1 H1 e1 S1 r1 h1 => ⟨isTy_ok S1 r1 h1.1, ?_⟩
  refine ha.sim σ s F1 C1 R H1 _ _ (hs.mono e1) S1 h1.2 fun ds vs F2 C2 H2 e2 S2 r2 hl h2 => ?_
  exact hm.sim v x vs ds F2 C2 R H2 Q P S2 (r1.mono e2) r2 h2 fun d u F3 C3 H3 e3 S3 r3 h3 => k d u F3 C3 H3 ((e1.trans e2).trans e3) S3 r3 h3⟩
theorem ae_meth0 (pa : PlainAttrs T) (slot : Slot T name id) (hty : typeOf (.builtin id) = pure (.type "method_descriptor")) (hm : AMt B X id r ar) (ho : AE B X o to ao)
    (hbase : attributeBase o name X.env (eval o X.env) = eval o X.env := by rfl) (hline : (apos.endLine == cpos.line) = true := by rfl) (hK : X.K = K := by rfl) :
    AE B X (.Call (.Attribute o name apos) [] [] cpos) (tBM0 K T r to) (aMeth0 T ar ao) := by
  subst hK
  exact ⟨pe_bm0 pa slot hty hm.op ho.pe hbase hline, by
  intro σ s F C R H Q P hs hS h0 k
  refine ho.sim σ s F C R H _ _ hs hS h0 fun x v F1 C1 H1 e1 S1 r1 h1 => ⟨isTy_ok S1 r1 h1.1, ?_⟩
  exact hm.sim v x [] [] F1 C1 R H1 Q P S1 r1 .nil h1.2 fun d u F3 C3 H3 e3 S3 r3 h3 => k d u F3 C3 H3 (e1.trans e3) S3 r3 h3⟩
end
theorem cellL {F : Hp} {C : AH} {R H : Hp} {p : Addr} {ds : List D} (hS : Sat B K F C R H) (e : C p = some (.lst ds)) : ∃ xs, H p = some (.lst xs) ∧ RepL K F xs ds := by
  obtain ⟨_, o, h1, h2⟩ := hS.cell p _ e
  cases h2
  exact ⟨_, h1, by assumption⟩
def aAppend : D → ASp := fun x ds C P => match x, ds with
  | .ce p, [d] => (match C p with | some (.lst us) => us.length < sizeLine ∧ P .non (put C p (.lst (us ++ [d]))) | _ => False)
  | _, _ => False
theorem am_append : AMt B X "list.append" rAppend aAppend := ⟨fun pins s σ H x xs v us Q I r1 r2 h => mt_append pins s σ H x xs v us Q I r1 r2 h, by
  intro v d vs ds F C R H Q P hS r1 r2 h k
  unfold aAppend at h
  split at h
  · cases r1
    cases r2 with
    | cons r2 r3 =>
      cases r3
      split at h
      · rename_i e
        obtain ⟨xs, h1, h2⟩ := cellL hS e
        exact ⟨_, xs, _, rfl, rfl, h1, by rw [h2.length]; exact h.1, k _ _ F _ _ (Ex.refl F) (hS.mutC e (.lst (h2.append (.cons r2 .nil)))) .non h.2⟩
      · exact h.elim
  · exact h.elim⟩
/-- xs.extend(ys), ys a list -/
def aExtend : D → ASp := fun x ds C P => match x, ds with
  | .ce p, [d] => (match C p, asL C d with | some (.lst us), some ws => us.length + ws.length ≤ sizeLine ∧ P .non (put C p (.lst (us ++ ws))) | _, _ => False)
  | _, _ => False
theorem am_extend : AMt B X "list.extend" rExtend aExtend := ⟨fun pins s σ H x xs v us Q I r1 r2 h => mt_extend pins s σ H x xs v us Q I r1 r2 h, by
  intro v d vs ds F C R H Q P hS r1 r2 h k
  unfold aExtend at h
  split at h
  · cases r1
    cases r2 with
    | cons r2 r3 =>
      cases r3
      split at h
      · rename_i e e2
        obtain ⟨xs, h1, h2⟩ := cellL hS e
        obtain ⟨a, ys, e3, h3, h4⟩ := asL_ok hS r2 e2
        exact ⟨_, a, xs, ys, rfl, by rw [e3], h1, h3, by rw [h2.length, h4.length]; exact h.1, k _ _ F _ _ (Ex.refl F) (hS.mutC e (.lst (h2.append h4))) .non h.2⟩
      · exact h.elim
  · exact h.elim⟩
def aPop : D → ASp := fun x ds C P => match x, ds with
  | .ce p, [] => (match C p with | some (.lst us) => (match us[us.length - 1]? with | some d => P d (put C p (.lst us.dropLast)) | none => False) | _ => False)
  | _, _ => False
theorem am_pop : AMt B X "list.pop" rPop aPop := ⟨fun pins s σ H x xs v us Q I r1 r2 h => mt_pop pins s σ H x xs v us Q I r1 r2 h, by
  intro v d vs ds F C R H Q P hS r1 r2 h k
  unfold aPop at h
  split at h
  · cases r1
    cases r2
    split at h
    · rename_i us e
      split at h
      · rename_i d e2
        obtain ⟨xs, h1, h2⟩ := cellL hS e
        obtain ⟨u, h3, h4⟩ := h2.getD e2
        exact ⟨_, xs, u, rfl, rfl, h1, by rw [h2.length]; exact h3, k _ _ F _ _ (Ex.refl F) (hS.mutC e (.lst h2.dropLast)) h4 h⟩
      · exact h.elim
    · exact h.elim
  · exact h.elim⟩
def aPopAt : D → ASp := fun x ds C P => match x, ds with
  | .ce p, [.int i] => (match C p with | some (.lst us) => -(2 ^ 63) ≤ i ∧ i < 2 ^ 63 ∧ (match seqIndex? i us.length with | some k => (match us[k]? with | some d => P d (put C p (.lst (us.eraseIdx k))) | none => False) | none => False) | _ => False)
  | _, _ => False
theorem am_popAt : AMt B X "list.pop" rPopAt aPopAt := ⟨fun pins s σ H x xs v us Q I r1 r2 h => mt_popAt pins s σ H x xs v us Q I r1 r2 h, by
  intro v d vs ds F C R H Q P hS r1 r2 h k
  unfold aPopAt at h
  split at h
  · cases r1
    cases r2 with
    | cons r2 r3 =>
      cases r3; cases r2
      split at h
      · rename_i us e
        obtain ⟨b1, b2, h⟩ := h
        split at h
        · rename_i j ej
          split at h
          · rename_i d e2
            obtain ⟨xs, h1, h2⟩ := cellL hS e
            obtain ⟨u, h3, h4⟩ := h2.getD e2
            exact ⟨_, xs, _, j, u, rfl, rfl, h1, b1, b2, by rw [h2.length]; exact ej, h3, k _ _ F _ _ (Ex.refl F) (hS.mutC e (.lst (h2.erase j))) h4 h⟩
          · exact h.elim
        · exact h.elim
      · exact h.elim
  · exact h.elim⟩

/-! ### what is walked -/
theorem walk_l {F : Hp} {a : Addr} {ds : List D} {hold : AH → Prop} (h : ∀ F' C' R' H', Ex F F' → Sat B K F' C' R' H' → hold C' → ∃ xs, SqL K H' a xs ∧ RepL K F' xs ds) : Walks B K F ds hold (Itl K a) := by
  refine ⟨fun F' C' R' H' e S hc => ?_, fun F' C' R' H' i e S hc hi => ?_, fun F' C' R' H' i x H'' e S hc hi y => ?_⟩
  · obtain ⟨xs, h1, h2⟩ := h F' C' R' H' e S hc
    exact ⟨xs, h1, by rw [h2.length]; exact Nat.le_refl _⟩
  · obtain ⟨xs, h1, h2⟩ := h F' C' R' H' e S hc
    exact ⟨xs, xs[i]'(by rw [h2.length]; exact hi), h1, by simp⟩
  · obtain ⟨xs, h1, h2⟩ := h F' C' R' H' e S hc
    obtain ⟨e1, y⟩ := y
    subst e1
    obtain ⟨d, h3, h4⟩ := h2.get (y xs h1)
    exact ⟨d, F', h3, Ex.refl F', S, h4⟩
theorem asL_later {F F' : Hp} {C C' : AH} {R R' H H' : Hp} {v : V} {d : D} {ds : List D} (hS : Sat B K F C R H) (r : Rep K F v d) (h : asLr C d = some ds) (e : Ex F F') (S' : Sat B K F' C' R' H') (hc : asLr C' d = some ds) : ∀ a, v = .ref a → ∃ xs, SqL K H' a xs ∧ RepL K F' xs ds := by
  intro a ea
  obtain ⟨b, xs, e1, h1, h2⟩ := asLr_ok S' (r.mono e) hc
  rw [ea] at e1
  cases e1
  exact ⟨xs, h1, h2⟩
/-- for x in a list -/
def aIL (a : AE') : AI' := fun s C P => a s C fun x C1 => match asLr C1 x with | some ds => P ds (fun C' => asLr C' x = some ds) C1 | none => False
theorem ai_list {tg e : Expr} {te : TE} {a : AE'} (h : AE B X e te a) (hK : X.K = K := by rfl) : AI B X tg e (iList K te) (aIL a) := by
  subst hK
  exact ⟨pi_list h.pe, by
  intro σ s F C R H Q P hs hS h0 k
  refine h.sim σ s F C R H _ _ hs hS h0 fun x v F1 C1 H1 e1 S1 r1 h1 => ?_
  split at h1
  · rename_i ds q
    obtain ⟨b, xs, e2, h2, h3⟩ := asLr_ok S1 r1 q
    exact ⟨b, e2, ⟨xs, h2⟩, k ds _ _ F1 C1 H1 e1 S1 (walk_l fun F' C' R' H' e' S' hc => asL_later S1 r1 q e' S' hc b e2) h1⟩
  · exact h1.elim⟩
/-- for x in a tuple -/
def aIT (a : AE') : AI' := fun s C P => a s C fun x C1 => match asT x with | some ds => P ds (fun _ => True) C1 | none => False
theorem ai_tup {tg e : Expr} {te : TE} {a : AE'} (h : AE B X e te a) (hK : X.K = K := by rfl) : AI B X tg e (iTup K te) (aIT a) := by
  subst hK
  exact ⟨pi_tup h.pe, by
  intro σ s F C R H Q P hs hS h0 k
  refine h.sim σ s F C R H _ _ hs hS h0 fun x v F1 C1 H1 e1 S1 r1 h1 => ?_
  split at h1
  · rename_i ds q
    obtain ⟨b, xs, e2, h2, h3⟩ := asT_ok S1 r1 q
    refine ⟨b, e2, ⟨xs, SqT.of h2⟩, k ds _ _ F1 C1 H1 e1 S1 ⟨fun F' C' R' H' e S _ => ?_, fun F' C' R' H' i e S _ hi => ?_, fun F' C' R' H' i x H'' e S _ hi y => ?_⟩ h1⟩
    · obtain ⟨b', xs', e2', h2', h3'⟩ := asT_ok S (r1.mono e) q
      rw [e2] at e2'; cases e2'
      exact ⟨xs', SqT.of h2', by rw [h3'.length]; exact Nat.le_refl _⟩
    · obtain ⟨b', xs', e2', h2', h3'⟩ := asT_ok S (r1.mono e) q
      rw [e2] at e2'; cases e2'
      exact ⟨xs', xs'[i]'(by rw [h3'.length]; exact hi), SqT.of h2', by simp⟩
    · obtain ⟨b', xs', e2', h2', h3'⟩ := asT_ok S (r1.mono e) q
      rw [e2] at e2'; cases e2'
      obtain ⟨e3, y⟩ := y
      subst e3
      obtain ⟨d, h4, h5⟩ := h3'.get (y xs' (SqT.of h2'))
      exact ⟨d, F', h4, Ex.refl F', S, h5⟩
  · exact h1.elim⟩
def rangeD (lo : Int) (n : Nat) : List D := (List.range n).map fun (i : Nat) => D.int (lo + i)
theorem rangeD_get {lo : Int} {n i : Nat} (h : i < n) : (rangeD lo n)[i]? = some (.int (lo + i)) := by
  unfold rangeD
  rw [List.getElem?_map, List.getElem?_range h]
  rfl
theorem rangeD_len (lo : Int) (n : Nat) : (rangeD lo n).length = n := by
  unfold rangeD
  rw [List.length_map, List.length_range]
theorem walk_r {F : Hp} (lo : Int) (n : Nat) : Walks B K F (rangeD lo n) (fun _ => True) (Itr lo n) := by
  refine ⟨fun F' C' R' H' e S _ => ?_, fun F' C' R' H' i e S _ hi => ?_, fun F' C' R' H' i x H'' e S _ hi y => ?_⟩
  · rw [rangeD_len]; exact Nat.le_refl _
  · rw [rangeD_len] at hi; exact hi
  · rw [rangeD_len] at hi
    obtain ⟨e1, y⟩ := y
    subst e1; subst y
    exact ⟨_, F', rangeD_get hi, Ex.refl F', S, .int _⟩
def aIR1 (a : AA') : AI' := fun s C P => a s C fun ds C1 => match ds with | [.int j] => -(2 ^ 62) ≤ j ∧ j < 2 ^ 62 ∧ P (rangeD 0 j.toNat) (fun _ => True) C1 | _ => False
def aIR2 (a : AA') : AI' := fun s C P => a s C fun ds C1 => match ds with | [.int i, .int j] => (-(2 ^ 62) ≤ i ∧ i < 2 ^ 62 ∧ -(2 ^ 62) ≤ j ∧ j < 2 ^ 62) ∧ P (rangeD i (j - i).toNat) (fun _ => True) C1 | _ => False
theorem ai_range1 {tg e : Expr} {n : Nat} {ta : TA} {a : AA'} {p : Pos} (hm : X.mg "range" = none) (h : AA B X [e] n ta a) (hg : Gl X "range" := by rfl) (hs : starEach [e] X.env = [(false, eval e X.env)] := by rfl) : AI B X tg (.Call (.Name "range" p) [e] [] pos) (iRng1 ta) (aIR1 a) := ⟨pi_range1 hg hm h.pa hs, by
  intro σ s F C R H Q P hs hS h0 k
  refine h.sim σ s F C R H _ _ hs hS h0 fun ds vs F1 C1 H1 e1 S1 r1 hl h1 => ?_
  split at h1
  · cases r1 with | cons r1 r2 => cases r2; cases r1; exact ⟨_, rfl, h1.1, h1.2.1, k _ _ _ F1 C1 H1 e1 S1 (walk_r 0 _) h1.2.2⟩
  · exact h1.elim⟩
theorem ai_range2 {tg e e2 : Expr} {n : Nat} {ta : TA} {a : AA'} {p : Pos} (hm : X.mg "range" = none) (h : AA B X [e, e2] n ta a) (hg : Gl X "range" := by rfl) (hs : starEach [e, e2] X.env = [(false, eval e X.env), (false, eval e2 X.env)] := by rfl) (hs2 : starEach [e2] X.env = [(false, eval e2 X.env)] := by rfl) : AI B X tg (.Call (.Name "range" p) [e, e2] [] pos) (iRng2 ta) (aIR2 a) := ⟨pi_range2 hg hm h.pa hs hs2, by
  intro σ s F C R H Q P hs hS h0 k
  refine h.sim σ s F C R H _ _ hs hS h0 fun ds vs F1 C1 H1 e1 S1 r1 hl h1 => ?_
  split at h1
  · cases r1 with | cons r1 r2 => cases r2 with | cons r2 r3 => cases r3; cases r1; cases r2; exact ⟨_, _, rfl, h1.1, k _ _ _ F1 C1 H1 e1 S1 (walk_r _ _) h1.2⟩
  · exact h1.elim⟩
/-- a text, sign by sign -/
def signs (z : Str) : List D := z.cps.toList.map fun c => D.str ⟨#[c]⟩
def aIS (a : AE') : AI' := fun s C P => a s C fun x C1 => match x with | .str z => P (signs z) (fun _ => True) C1 | _ => False
theorem ai_str {tg e : Expr} {te : TE} {a : AE'} (h : AE B X e te a) : AI B X tg e (iStr te) (aIS a) := ⟨pi_str h.pe, by
  intro σ s F C R H Q P hs hS h0 k
  refine h.sim σ s F C R H _ _ hs hS h0 fun x v F1 C1 H1 e1 S1 r1 h1 => ?_
  split at h1
  · rename_i z
    cases r1
    refine ⟨z, rfl, k _ _ _ F1 C1 H1 e1 S1 ⟨fun F' C' R' H' e S _ => ?_, fun F' C' R' H' i e S _ hi => ?_, fun F' C' R' H' i x H'' e S _ hi y => ?_⟩ h1⟩
    · unfold signs; rw [List.length_map, Array.length_toList]; exact Nat.le_refl _
    · unfold signs at hi; rw [List.length_map, Array.length_toList] at hi; exact hi
    · obtain ⟨e3, c, y1, y2⟩ := y
      subst e3; subst y2
      refine ⟨_, F', ?_, Ex.refl F', S, .str _⟩
      unfold signs
      rw [List.getElem?_map, Array.getElem?_toList, y1]
      rfl
  · exact h1.elim⟩
/-- enumerate of a list -/
def enumD (ds : List D) : List D := (List.range ds.length).map fun (i : Nat) => D.tup [.int i, ds.getD i .non]
theorem enumD_len (ds : List D) : (enumD ds).length = ds.length := by unfold enumD; rw [List.length_map, List.length_range]
theorem enumD_get {ds : List D} {i : Nat} {d : D} (h : ds[i]? = some d) : (enumD ds)[i]? = some (.tup [.int i, d]) := by
  unfold enumD
  have hi := (List.getElem?_eq_some_iff.mp h).1
  rw [List.getElem?_map, List.getElem?_range hi]
  simp [List.getD, h]
def aIE (a : AA') : AI' := fun s C P => a s C fun us C1 => match us with | [x] => (match asLr C1 x with | some ds => P (enumD ds) (fun C' => asLr C' x = some ds) C1 | none => False) | _ => False
theorem ai_enum {e : Expr} {elts : List Expr} {kk n : Nat} {tpos p : Pos} {ta : TA} {a : AA'} (hm : X.mg "enumerate" = none) (h : AA B X [e] n ta a) (hg : Gl X "enumerate" := by rfl) (hs : starEach [e] X.env = [(false, eval e X.env)] := by rfl) (hK : X.K = K := by rfl) : AI B X (.Tuple elts kk tpos) (.Call (.Name "enumerate" p) [e] [] pos) (iEnum K ta) (aIE a) := by
  subst hK
  exact ⟨pi_enum hg hm h.pa hs, by
  intro σ s F C R H Q P hs hS h0 k
  refine h.sim σ s F C R H _ _ hs hS h0 fun us vs F1 C1 H1 e1 S1 r0 hl h1 => ?_
  split at h1
  · rename_i x
    cases r0 with
    | cons r1 r2 =>
      cases r2
      split at h1
      · rename_i ds q
        obtain ⟨b, xs, e2, h2, h3⟩ := asLr_ok S1 r1 q
        refine ⟨b, xs, by rw [e2], h2, k _ _ _ F1 C1 H1 e1 S1 ⟨fun F' C' R' H' e S hc => ?_, fun F' C' R' H' i e S hc hi => ?_, fun F' C' R' H' i x H'' e S hc hi y => ?_⟩ h1⟩
        · obtain ⟨xs', h4, h5⟩ := asL_later S1 r1 q e S hc b e2
          exact ⟨xs', h4, by rw [h5.length, enumD_len]; exact Nat.le_refl _⟩
        · obtain ⟨xs', h4, h5⟩ := asL_later S1 r1 q e S hc b e2
          rw [enumD_len] at hi
          exact ⟨xs', xs'[i]'(by rw [h5.length]; exact hi), h4, by simp⟩
        · obtain ⟨xs', h4, h5⟩ := asL_later S1 r1 q e S hc b e2
          obtain ⟨T, v, y1, y2, y3, y4⟩ := y
          subst y1; subst y3
          obtain ⟨d, h6, h7⟩ := h5.get (y4 xs' h4)
          have eN := Ex.new (o := .tup [.int (i : Nat), v]) (S.freeF y2)
          exact ⟨_, _, enumD_get h6, eN, S.newF y2 _, .tup upd_same (.cons (.int _) (.cons (h7.mono eN) .nil))⟩
      · exact h1.elim
  · exact h1.elim⟩
/-- zip of two lists -/
def zipD (xs ys : List D) : List D := (xs.zip ys).map fun p => D.tup [p.1, p.2]
theorem zipD_len (xs ys : List D) : (zipD xs ys).length = min xs.length ys.length := by unfold zipD; rw [List.length_map, List.length_zip]
theorem zipD_get {xs ys : List D} {i : Nat} {x y : D} (h : xs[i]? = some x) (g : ys[i]? = some y) : (zipD xs ys)[i]? = some (.tup [x, y]) := by
  unfold zipD
  rw [List.getElem?_map, show (xs.zip ys)[i]? = some (x, y) from List.getElem?_zip_eq_some.mpr ⟨h, g⟩]
  rfl
def aIZ (a : AA') : AI' := fun s C P => a s C fun us C1 => match us with | [x, y] => (match asLr C1 x, asLr C1 y with | some ds, some es => P (zipD ds es) (fun C' => asLr C' x = some ds ∧ asLr C' y = some es) C1 | _, _ => False) | _ => False
theorem ai_zip {e e2 : Expr} {elts : List Expr} {kk n : Nat} {tpos p : Pos} {ta : TA} {a : AA'} (hm : X.mg "zip" = none) (h : AA B X [e, e2] n ta a) (hg : Gl X "zip" := by rfl) (hs : starEach [e, e2] X.env = (false, eval e X.env) :: starEach [e2] X.env := by rfl) (hpl : (backTo pos (starEach [e2] X.env)).any (·.1) = false := by rfl) (hK : X.K = K := by rfl) :
    AI B X (.Tuple elts kk tpos) (.Call (.Name "zip" p) [e, e2] [] pos) (iZip K ta) (aIZ a) := by
  subst hK
  exact ⟨pi_zip hg hm h.pa hs hpl, by
  intro σ s F C R H Q P hs hS h0 k
  refine h.sim σ s F C R H _ _ hs hS h0 fun us vs F1 C1 H1 e1 S1 r0 hl h1 => ?_
  split at h1
  · rename_i x y
    cases r0 with
    | cons r1 r2 =>
      cases r2 with
      | cons r2 r3 =>
      cases r3
      split at h1
      · rename_i ds es q q2
        obtain ⟨b, xs, e2, h2, h3⟩ := asLr_ok S1 r1 q
        obtain ⟨b2, xs2, e3, h22, h33⟩ := asLr_ok S1 r2 q2
        refine ⟨b, b2, xs, xs2, by rw [e2, e3], h2, h22, k _ _ _ F1 C1 H1 e1 S1 ⟨fun F' C' R' H' e S hc => ?_, fun F' C' R' H' i e S hc hi => ?_, fun F' C' R' H' i x H'' e S hc hi y => ?_⟩ h1⟩
        · obtain ⟨xs', h4, h5⟩ := asL_later S1 r1 q e S hc.1 b e2
          obtain ⟨ys', g4, g5⟩ := asL_later S1 r2 q2 e S hc.2 b2 e3
          refine ⟨xs', ys', h4, g4, ?_⟩
          rw [h5.length, g5.length, zipD_len]; omega
        · obtain ⟨xs', h4, h5⟩ := asL_later S1 r1 q e S hc.1 b e2
          obtain ⟨ys', g4, g5⟩ := asL_later S1 r2 q2 e S hc.2 b2 e3
          rw [zipD_len] at hi
          exact ⟨xs', ys', xs'[i]'(by rw [h5.length]; omega), ys'[i]'(by rw [g5.length]; omega), h4, g4, by simp, by simp⟩
        · obtain ⟨xs', h4, h5⟩ := asL_later S1 r1 q e S hc.1 b e2
          obtain ⟨ys', g4, g5⟩ := asL_later S1 r2 q2 e S hc.2 b2 e3
          obtain ⟨T, v, w', y1, y2, y3, y4, y5⟩ := y
          subst y1; subst y3
          obtain ⟨d, h6, h7⟩ := h5.get (y4 xs' h4)
          obtain ⟨d2, g6, g7⟩ := g5.get (y5 ys' g4)
          have eN := Ex.new (o := .tup [v, w']) (S.freeF y2)
          exact ⟨_, _, zipD_get h6 g6, eN, S.newF y2 _, .tup upd_same (.cons (h7.mono eN) (.cons (g7.mono eN) .nil))⟩
      · exact h1.elim
  · exact h1.elim⟩
end
end AL

namespace AL
open PySem PySem.Spec L2
variable {B : Bs}
section
variable {X : Cx} {pos : Pos} {K : PySem.W.Frag}
theorem EndsR.mono {F F' R : Hp} {E : AEnds} {D' : Ends} (h : EndsR B K F R E D') (e : Ex F F') : EndsR B K F' R E D' :=
  ⟨fun s σ G C H e1 hs S z => h.nx s σ G C H (e.trans e1) hs S z, fun d v G C H e1 r S z => h.rt d v G C H (e.trans e1) r S z, fun s σ G C H e1 hs S z => h.bk s σ G C H (e.trans e1) hs S z, fun s σ G C H e1 hs S z => h.ct s σ G C H (e.trans e1) hs S z⟩
/-! ### targets -/
def aGName (i : Nat) : AG' := fun d s C P => P (s.set i (some d)) C
theorem wipe_get (σ : L2.St) (i : Nat) : ∀ vs : List Nat, (L2.wipe σ vs)[i]? = if i ∈ vs then (if i < σ.length then some none else none) else σ[i]?
  | [] => by simp [L2.wipe]
  | v :: vs => by
    unfold L2.wipe
    by_cases h : i = v
    · subst h
      rw [if_pos List.mem_cons_self]
      by_cases hl : i < σ.length
      · rw [if_pos hl, List.getElem?_set_self (by rw [L2.wipe_length]; exact hl)]
      · rw [if_neg hl, List.getElem?_eq_none (by rw [List.length_set, L2.wipe_length]; omega)]
    · rw [List.getElem?_set_ne (Ne.symm h), wipe_get σ i vs]
      by_cases h2 : i ∈ vs
      · rw [if_pos h2, if_pos (List.mem_cons_of_mem _ h2)]
      · rw [if_neg h2, if_neg (by simp [h, h2])]
theorem wipe_set {σ : L2.St} {j : Nat} {x : Option V} {vs : List Nat} (h : j ∈ vs) : L2.wipe (σ.set j x) vs = L2.wipe σ vs := by
  apply List.ext_getElem?
  intro i
  rw [wipe_get, wipe_get, List.length_set]
  by_cases h2 : i ∈ vs
  · rw [if_pos h2, if_pos h2]
  · rw [if_neg h2, if_neg h2, List.getElem?_set_ne (fun z => h2 (by rw [← z]; exact h))]
theorem wipe_wipe (σ : L2.St) (vs : List Nat) : L2.wipe (L2.wipe σ vs) vs = L2.wipe σ vs := by
  apply List.ext_getElem?
  intro i
  rw [wipe_get, L2.wipe_length]
  by_cases h2 : i ∈ vs
  · rw [if_pos h2, wipe_get, if_pos h2]
  · rw [if_neg h2]
theorem ag_name (i : Nat) {vs : List Nat} {x : Str} (hN : X.N.Nodup) (hi : X.N[i]? = some x := by rfl) (hx : Loc X.env.scope x := by exact Or.inl rfl) (hv : i ∈ vs := by decide) (hf : X.fn x = true ∨ X.env.scope.names.lookup x = some .local := by first | exact .inl rfl | exact .inr rfl) : AG B X (.Name x pos) vs (gName i) (aGName i) :=
  ⟨pg_name hN hi hx hf, fun v d σ s F C R H Q P hs hS r h k => k _ _ F C H (Ex.refl F) (hs.set r i) hS h, fun x σ H Q Q' h k => k _ _ (wipe_set hv) h⟩
abbrev AGs' := List D → ASt → AH → (ASt → AH → Prop) → Prop
def SimGs (B : Bs) (K : PySem.W.Frag) (g : TGs) (a : AGs') : Prop := ∀ (vs : List V) (ds : List D) (σ : L2.St) (s : ASt) (F : Hp) (C : AH) (R H : Hp) (Q : L2.St → Hp → Prop) (P : ASt → AH → Prop), Slo K F s σ → Sat B K F C R H → RepL K F vs ds → a ds s C P →
  (∀ s' σ' F' C' H', Ex F F' → Slo K F' s' σ' → Sat B K F' C' R H' → P s' C' → Q σ' H') → g vs σ H Q
structure AGs (B : Bs) (X : Cx) (es : List Expr) (vs : List Nat) (g : TGs) (a : AGs') : Prop where
  pg : PGs X es g
  sim : SimGs B X.K g a
  inn : ∀ xs σ H (Q Q' : L2.St → Hp → Prop), g xs σ H Q → (∀ σ2 H2, L2.wipe σ2 vs = L2.wipe σ vs → Q σ2 H2 → Q' σ2 H2) → g xs σ H Q'
def aGNil : AGs' := fun ds s C P => match ds with | [] => P s C | _ => False
def aGCons (g : AG') (r : AGs') : AGs' := fun ds s C P => match ds with | d :: ds => g d s C fun s' C' => r ds s' C' P | [] => False
theorem ags_nil {vs : List Nat} : AGs B X [] vs gNil aGNil := ⟨pgs_nil, fun vs ds σ s F C R H Q P hs hS r h k => by
  unfold aGNil at h
  split at h
  · cases r
    exact ⟨rfl, k s σ F C H (Ex.refl F) hs hS h⟩
  · exact h.elim, fun xs σ H Q Q' h k => ⟨h.1, k _ _ rfl h.2⟩⟩
theorem ags_cons {e : Expr} {es : List Expr} {vs : List Nat} {g : TG} {r : TGs} {a : AG'} {b : AGs'} (h1 : AG B X e vs g a) (h2 : AGs B X es vs r b) (hs : (assignEach (e :: es) X.env).map (·.2) = assign e X.env :: (assignEach es X.env).map (·.2) := by rfl) : AGs B X (e :: es) vs (gCons g r) (aGCons a b) :=
  ⟨pgs_cons h1.pg h2.pg hs, fun vs ds σ s F C R H Q P hs hS rr h k => by
    unfold aGCons at h
    split at h
    · cases rr with
      | cons r1 r2 =>
        refine ⟨_, _, rfl, ?_⟩
        refine h1.sim _ _ σ s F C R H _ _ hs hS r1 h fun s1 σ1 F1 C1 H1 e1 hs1 S1 q1 => ?_
        exact h2.sim _ _ σ1 s1 F1 C1 R H1 Q P hs1 S1 (r2.mono e1) q1 fun s2 σ2 F2 C2 H2 e2 => k s2 σ2 F2 C2 H2 (e1.trans e2)
    · exact h.elim, fun xs σ H Q Q' h k => by
    obtain ⟨v, r, e, h⟩ := h
    refine ⟨v, r, e, ?_⟩
    exact h1.inn v σ H _ _ h fun σ1 H1 w1 q => h2.inn r σ1 H1 _ _ q fun σ2 H2 w2 q2 => k σ2 H2 (w2.trans w1) q2⟩
def aGTup (n : Nat) (g : AGs') : AG' := fun d s C P => match d with | .tup ds => ds.length = n ∧ g ds s C P | _ => False
theorem ag_tup {es : List Expr} {k n : Nat} {vs : List Nat} {t : TGs} {a : AGs'} (h : AGs B X es vs t a) (hc : X.calm = true := by rfl) (hn : (assignEach es X.env).length = n := by rfl) (hst : (assignEach es X.env).findIdx? (·.1) = none := by rfl) (hK : X.K = K := by rfl) : AG B X (.Tuple es k pos) vs (gTup K n t) (aGTup n a) := by
  subst hK
  exact ⟨pg_tup hc h.pg hn hst, fun v d σ s F C R H Q P hs hS r h0 kk => by
    unfold aGTup at h0
    split at h0
    · cases r with
      | tup e q =>
        exact ⟨_, _, rfl, SqT.of (hS.ex _ _ e), by rw [q.length]; exact h0.1, h.sim _ _ σ s F C R H Q P hs hS q h0.2 kk⟩
    · exact h0.elim, fun x σ H Q Q' h0 kk => by
    obtain ⟨a, xs, e, hq, hl, h0⟩ := h0
    exact ⟨a, xs, e, hq, hl, h.inn xs σ H _ _ h0 kk⟩⟩
/-- xs[i] = .., a list -/
def aGSet (o i : AE') : AG' := fun d s C P => o s C fun x C1 => i s C1 fun y C2 => match x, y with
  | .ce p, .int j => (match C2 p with | some (.lst us) => (match ixN us.length j with | some k => P s (put C2 p (.lst (us.set k d))) | none => False) | _ => False)
  | _, _ => False
theorem sim_set {to ti : TE} {ao ai : AE'} (ho : SimE B K to ao) (hi : SimE B K ti ai) : SimG B K (gSub to ti rSetL) (aGSet ao ai) := by
  intro v d σ s F C R H Q P hs hS r h k
  refine ho σ s F C R H _ _ hs hS h fun x w F1 C1 H1 e1 S1 r1 h1 => ?_
  refine hi σ s F1 C1 R H1 _ _ (hs.mono e1) S1 h1 fun y w2 F2 C2 H2 e2 S2 r2 h2 => ?_
  split at h2
  · cases r1
    cases r2
    split at h2
    · rename_i us e
      split at h2
      · rename_i j q
        obtain ⟨xs, h3, h4⟩ := cellL S2 e
        exact ⟨_, xs, _, j, rfl, rfl, h3, by rw [h4.length]; exact q, k s σ F2 _ _ (e1.trans e2) (hs.mono (e1.trans e2)) (S2.mutC e (.lst (h4.set (r.mono (e1.trans e2)) j))) h2⟩
      · exact h2.elim
    · exact h2.elim
  · exact h2.elim

/-! ### statements -/
def aNext : AS' := fun E s C => E.nx s C
def aSeq (a b : AS') : AS' := fun E s C => a { E with nx := b E } s C
theorem sim_next : SimS B K tNext aNext := fun D' E σ s F C R H hE hs hS h => hE.nx s σ F C H (Ex.refl F) hs hS h
theorem sim_seq {t u : TS} {a b : AS'} (ha : SimS B K t a) (hb : SimS B K u b) : SimS B K (tSeq t u) (aSeq a b) := fun D' E σ s F C R H hE hs hS h =>
  ha { D' with nx := u D' } { E with nx := b E } σ s F C R H ⟨fun s σ F' C' H' e hs S z => hb D' E σ s F' C' R H' (hE.mono e) hs S z, hE.rt, hE.bk, hE.ct⟩ hs hS h
theorem ass_nil : ASs B X [] tNext aNext := ⟨pss_nil, sim_next⟩
theorem ass_one {st : Stmt} {t : TS} {a : AS'} (h : AS B X st t a) : ASs B X [st] t a := ⟨pss_one h.ps, h.sim⟩
theorem ass_cons {st : Stmt} {rest : List Stmt} {t u : TS} {a b : AS'} (h : AS B X st t a) (g : ASs B X rest u b) : ASs B X (st :: rest) (tSeq t u) (aSeq a b) := ⟨pss_cons h.ps g.ps, sim_seq h.sim g.sim⟩
/-- a cell that is changed no more, in a slot -/
def aFrz (i : Nat) (a : AS') : AS' := fun E s C => match s[i]? with
  | some (some (.ce p)) => (match C p with | some (.lst ds) => a E (s.set i (some (.lst ds))) (del C p) | some (.dk es) => a E (s.set i (some (.dk es))) (del C p) | _ => False)
  | _ => False
theorem sim_frz {t : TS} {a : AS'} (i : Nat) (h : SimS B K t a) : SimS B K t (aFrz i a) := fun D' E σ s F C R H hE hs hS h0 => by
  unfold aFrz at h0
  split at h0
  · rename_i p e
    split at h0
    · rename_i ds e2
      obtain ⟨hF, o, h1, h2⟩ := hS.cell p _ e2
      have eN := Ex.new (o := o) hF
      refine h D' E σ _ (upd F p o) _ R H (hE.mono eN) ((hs.mono eN).reset e fun v r => ?_) (hS.freeze e2 h1) h0
      cases r
      cases h2 with
      | lst q => exact .lst upd_same (q.mono eN)
    · rename_i ds e2
      obtain ⟨hF, o, h1, h2⟩ := hS.cell p _ e2
      have eN := Ex.new (o := o) hF
      refine h D' E σ _ (upd F p o) _ R H (hE.mono eN) ((hs.mono eN).reset e fun v r => ?_) (hS.freeze e2 h1) h0
      cases r
      cases h2 with
      | dk q => exact .dk upd_same (q.mono eN)
    · exact h0.elim
  · exact h0.elim
theorem ass_frz {sts : List Stmt} {t : TS} {a : AS'} (i : Nat) (h : ASs B X sts t a) : ASs B X sts t (aFrz i a) := ⟨h.ps, sim_frz i h.sim⟩
def aAsg (e : AE') (g : AG') : AS' := fun E s C => e s C fun x C1 => g x s C1 E.nx
theorem sim_asg {te : TE} {g : TG} {a : AE'} {b : AG'} (ha : SimE B K te a) (hb : SimG B K g b) : SimS B K (tAsg te g) (aAsg a b) := fun D' E σ s F C R H hE hs hS h => by
  refine ha σ s F C R H _ _ hs hS h fun x v F1 C1 H1 e1 S1 r1 h1 => ?_
  exact hb v x σ s F1 C1 R H1 _ _ (hs.mono e1) S1 r1 h1 fun s2 σ2 F2 C2 H2 e2 hs2 S2 h2 => hE.nx s2 σ2 F2 C2 H2 (e1.trans e2) hs2 S2 h2
section
variable {e : Expr} {te : TE} {a : AE'}
theorem sim_name (i : Nat) : SimG B K (gName i) (aGName i) := fun v d σ s F C R H Q P hs hS r h k => k _ _ F C H (Ex.refl F) (hs.set r i) hS h
theorem as_set (i : Nat) {x : Str} {pos' : Pos} (hN : X.N.Nodup) (h : AE B X e te a) (hi : X.N[i]? = some x := by rfl) (hx : Loc X.env.scope x := by exact Or.inl rfl) (hs : swapsWith e (some (.Name x pos')) pos.line X.env = pure false := by rfl) (hf : X.fn x = true ∨ X.env.scope.names.lookup x = some .local := by first | exact .inl rfl | exact .inr rfl) :
    AS B X (.Assign [.Name x pos'] e pos) (tAsg te (gName i)) (aAsg a (aGName i)) := ⟨ps_set hN hi hx h.pe hs hf, sim_asg h.sim (sim_name i)⟩
theorem as_asg {tg : Expr} {vs : List Nat} {g : TG} {b : AG'} (h : AE B X e te a) (hg : AG B X tg vs g b) (hs : swapsWithSole [tg] e pos.line X.env = pure false := by rfl) (hw : swappedStores [tg] e X.env = pure none := by rfl)
    (h1 : (assignEach [tg] X.env).map (·.2) = [assign tg X.env] := by rfl) : AS B X (.Assign [tg] e pos) (tAsg te g) (aAsg a b) := ⟨ps_asg h.pe hg.pg hs hw h1, sim_asg h.sim hg.sim⟩
/-- xs[i] = e -/
theorem as_setL {o i : Expr} {to ti : TE} {ao ai : AE'} {p2 : Pos} (h : AE B X e te a) (ho : AE B X o to ao) (hi : AE B X i ti ai) (hs : swapsWithSole [.Subscript o i p2] e pos.line X.env = pure false := by rfl) (hw : swappedStores [.Subscript o i p2] e X.env = pure none := by rfl)
    (h1 : (assignEach [.Subscript o i p2] X.env).map (·.2) = [assign (.Subscript o i p2) X.env] := by rfl)
    (ha : ∀ v, assign (.Subscript o i p2) X.env v = (do
      let ov ← holding [v] (eval o X.env)
      let iv ← holding [v, ov] (eval i X.env)
      standAt p2
      holding [v, ov, iv] (setItem ov iv v)
      release [v, ov, iv] []) := by intro _; rfl) : AS B X (.Assign [.Subscript o i p2] e pos) (tAsg te (gSub to ti rSetL)) (aAsg a (aGSet ao ai)) :=
  ⟨ps_asg h.pe (pg_sub ho.pe hi.pe set_list ha) hs hw h1, sim_asg h.sim (sim_set ho.sim hi.sim)⟩
def aDrop (a : AE') : AS' := fun E s C => a s C fun _ C1 => E.nx s C1
theorem as_expr (h : AE B X e te a) (hs : swapsWith e none pos.line X.env = pure false := by rfl) : AS B X (.Expr e pos) (tDrop te) (aDrop a) := ⟨ps_expr h.pe hs, fun D' E σ s F C R H hE hs hS h0 => by
  exact h.sim σ s F C R H _ _ hs hS h0 fun x v F1 C1 H1 e1 S1 r1 h1 => hE.nx s σ F1 C1 H1 e1 (hs.mono e1) S1 h1⟩
def aRet (a : AE') : AS' := fun E s C => a s C E.rt
theorem as_ret (h : AE B X e te a) : AS B X (.Return (some e) pos) (tRet te) (aRet a) := ⟨ps_ret h.pe, fun D' E σ s F C R H hE hs hS h0 => by
  exact h.sim σ s F C R H _ _ hs hS h0 fun x v F1 C1 H1 e1 S1 r1 h1 => hE.rt x v F1 C1 H1 e1 r1 S1 h1⟩
end
def aRetN : AS' := fun E _ C => E.rt .non C
theorem as_retN : AS B X (.Return none pos) tRetN aRetN := ⟨ps_retN, fun D' E σ s F C R H hE hs hS h0 => hE.rt .non .non F C H (Ex.refl F) .non hS h0⟩
def aBrk : AS' := fun E s C => E.bk s C
def aCon : AS' := fun E s C => E.ct s C
theorem as_brk : AS B X (.Break pos) tBreak aBrk := ⟨ps_break, fun D' E σ s F C R H hE hs hS h => hE.bk s σ F C H (Ex.refl F) hs hS h⟩
theorem as_con : AS B X (.Continue pos) tCont aCon := ⟨ps_continue, fun D' E σ s F C R H hE hs hS h => hE.ct s σ F C H (Ex.refl F) hs hS h⟩
theorem as_pass : AS B X (.Pass pos) tNext aNext := ⟨ps_pass, sim_next⟩
def aIfS (c : AT') (a b : AS') : AS' := fun E s C => c s C fun t C1 => if t = true then a E s C1 else b E s C1
theorem as_if {c : Expr} {p q : List Stmt} {tc : TT} {t u : TS} {ac : AT'} {a b : AS'} (hc : AT B X c tc ac) (ha : ASs B X p t a) (hb : ASs B X q u b) : AS B X (.If c p q pos) (tIfS tc t u) (aIfS ac a b) := ⟨ps_if hc.pt ha.ps hb.ps, fun D' E σ s F C R H hE hs hS h0 => by
  refine hc.sim σ s F C R H _ _ hs hS h0 fun t F1 C1 H1 e1 S1 h1 => ?_
  cases t with
  | true => exact ha.sim D' E σ s F1 C1 R H1 (hE.mono e1) (hs.mono e1) S1 h1
  | false => exact hb.sim D' E σ s F1 C1 R H1 (hE.mono e1) (hs.mono e1) S1 h1⟩
/-- name op= e, ints -/
def aAug (i : Nat) (f : Int → Int → Int) (a : AE') : AS' := fun E s C => match s[i]? with
  | some (some (.int x)) => a s C fun y C1 => (match y with | .int j => E.nx (s.set i (some (.int (f x j)))) C1 | _ => False)
  | _ => False
theorem sim_aug {f : Int → Int → Int} {te : TE} {a : AE'} (i : Nat) (h : SimE B K te a) : SimS B K (tAug i te (ipI f)) (aAug i f a) := fun D' E σ s F C R H hE hs hS h0 => by
  unfold aAug at h0
  split at h0
  · rename_i x e
    obtain ⟨v, h1, h2⟩ := hs.at' i _ e
    cases h2
    refine ⟨_, h1, h σ s F C R H _ _ hs hS h0 fun y w F1 C1 H1 e1 S1 r1 h3 => ?_⟩
    split at h3
    · cases r1
      exact ⟨_, _, rfl, rfl, hE.nx _ _ F1 C1 H1 e1 ((hs.mono e1).set (.int _) i) S1 h3⟩
    · exact h3.elim
  · exact h0.elim

/-! ### loops -/
def aFor (w : AI') (g : AG') (b : AS') : AS' := fun E s C => w s C fun items hold C1 => ∃ W : Nat → ASt → AH → Prop, W 0 s C1 ∧ (∀ i s' C', i ≤ items.length → W i s' C' → hold C') ∧
  (∀ i d s' C', items[i]? = some d → W i s' C' → g d s' C' fun s2 C2 => b { E with nx := W (i + 1), ct := W (i + 1), bk := E.nx } s2 C2) ∧ ∀ s' C', W items.length s' C' → E.nx s' C'
theorem sim_for {wi : TI} {g : TG} {tb : TS} {aw : AI'} {ag : AG'} {ab : AS'} (hi : SimI B K wi aw) (hg : SimG B K g ag) (hb : SimS B K tb ab) : SimS B K (tFor wi g tb) (aFor aw ag ab) := fun D' E σ s F C R H hE hs hS h => by
  refine hi σ s F C R H _ _ hs hS h fun items hold J F1 C1 H1 e1 S1 Wk h1 => ?_
  obtain ⟨W, h0, hh, hstep, hend⟩ := h1
  refine ⟨fun i m σ' H' => m = items.length - i ∧ i ≤ items.length ∧ ∃ s' F' C', Ex F1 F' ∧ Slo K F' s' σ' ∧ Sat B K F' C' R H' ∧ W i s' C', ⟨items.length, by simp, Nat.zero_le _, s, F1, C1, Ex.refl F1, hs.mono e1, S1, h0⟩, ?_⟩
  rintro i m σ' H' ⟨rfl, hi, s', F', C', e', hs', S', w⟩
  by_cases hlt : i < items.length
  · refine .inr ⟨Wk.go F' C' R H' i e' S' (hh i s' C' hi w) hlt, fun σ2 H2 => ∃ s2 F2 C2, Ex F1 F2 ∧ Slo K F2 s2 σ2 ∧ Sat B K F2 C2 R H2 ∧ W (i + 1) s2 C2, fun σ2 H2 z => ⟨items.length - (i + 1), by omega, rfl, hlt, z⟩, fun x H'' y => ?_⟩
    obtain ⟨d, F'', hd, e'', S'', r⟩ := Wk.yld F' C' R H' i x H'' e' S' (hh i s' C' hi w) hlt y
    refine hg x d σ' s' F'' C' R H'' _ _ (hs'.mono e'') S'' r (hstep i d s' C' hd w) fun s2 σ2 F2 C2 H2 e2 hs2 S2 h2 => ?_
    have eA : Ex F1 F2 := (e'.trans e'').trans e2
    refine hb _ { E with nx := W (i + 1), ct := W (i + 1), bk := E.nx } σ2 s2 F2 C2 R H2 ⟨fun s3 σ3 F3 C3 H3 e3 hs3 S3 z => ⟨s3, F3, C3, eA.trans e3, hs3, S3, z⟩, fun d v F3 C3 H3 e3 r3 S3 z => hE.rt d v F3 C3 H3 ((e1.trans eA).trans e3) r3 S3 z,
      fun s3 σ3 F3 C3 H3 e3 hs3 S3 z => hE.nx s3 σ3 F3 C3 H3 ((e1.trans eA).trans e3) hs3 S3 z, fun s3 σ3 F3 C3 H3 e3 hs3 S3 z => ⟨s3, F3, C3, eA.trans e3, hs3, S3, z⟩⟩ hs2 S2 h2
  · have e : i = items.length := by omega
    subst e
    exact .inl ⟨Wk.stop F' C' R H' e' S' (hh _ s' C' (Nat.le_refl _) w), hE.nx s' σ' F' C' H' (e1.trans e') hs' S' (hend s' C' w)⟩
theorem as_for {tg iter : Expr} {body : List Stmt} {wi : TI} {vs : List Nat} {g : TG} {tb : TS} {aw : AI'} {ag : AG'} {ab : AS'} (hi : AI B X tg iter wi aw) (hg : AG B X tg vs g ag) (hb : ASs B X body tb ab) (hp : PassesOwn (model X.prog X.w) X.A X.env X.xe := by exact PassesOwn.never) (hc : X.calm = true := by rfl)
    (hs : ∀ x, foldedSetIterable iter X.env x = pure x := by intro _; rfl) : AS B X (.For tg iter body [] pos) (tFor wi g tb) (aFor aw ag ab) := ⟨ps_for hp hc hi.pi hg.pg hb.ps hs, sim_for hi.sim hg.sim hb.sim⟩
def aWhile (c : AT') (b : AS') : AS' := fun E s C => ∃ W : Nat → ASt → AH → Prop, (∃ m, W m s C) ∧ ∀ m s' C', W m s' C' → c s' C' fun t C1 => if t = true then b { E with nx := fun s2 C2 => ∃ m', m' < m ∧ W m' s2 C2, ct := fun s2 C2 => ∃ m', m' < m ∧ W m' s2 C2, bk := E.nx } s' C1 else E.nx s' C1
theorem sim_while {tc : TT} {tb : TS} {ac : AT'} {ab : AS'} (hc : SimT B K tc ac) (hb : SimS B K tb ab) : SimS B K (tWhile tc tb) (aWhile ac ab) := fun D' E σ s F C R H hE hs hS h => by
  obtain ⟨W, ⟨m0, h0⟩, hstep⟩ := h
  refine ⟨fun m σ' H' => ∃ s' F' C', Ex F F' ∧ Slo K F' s' σ' ∧ Sat B K F' C' R H' ∧ W m s' C', ⟨m0, s, F, C, Ex.refl F, hs, hS, h0⟩, ?_⟩
  rintro m σ' H' ⟨s', F', C', e', hs', S', w⟩
  refine hc σ' s' F' C' R H' _ _ hs' S' (hstep m s' C' w) fun t F1 C1 H1 e1 S1 h1 => ?_
  have eA : Ex F F1 := e'.trans e1
  cases t with
  | true =>
    refine ⟨fun σ2 H2 => ∃ m', m' < m ∧ ∃ s2 F2 C2, Ex F F2 ∧ Slo K F2 s2 σ2 ∧ Sat B K F2 C2 R H2 ∧ W m' s2 C2, fun σ2 H2 z => z, ?_⟩
    refine hb _ { E with nx := fun s2 C2 => ∃ m', m' < m ∧ W m' s2 C2, ct := fun s2 C2 => ∃ m', m' < m ∧ W m' s2 C2, bk := E.nx } σ' s' F1 C1 R H1 ⟨fun s3 σ3 F3 C3 H3 e3 hs3 S3 z => ?_, fun d v F3 C3 H3 e3 r3 S3 z => hE.rt d v F3 C3 H3 (eA.trans e3) r3 S3 z,
      fun s3 σ3 F3 C3 H3 e3 hs3 S3 z => hE.nx s3 σ3 F3 C3 H3 (eA.trans e3) hs3 S3 z, fun s3 σ3 F3 C3 H3 e3 hs3 S3 z => ?_⟩ (hs'.mono e1) S1 h1
    · obtain ⟨m', hm, z⟩ := z
      exact ⟨m', hm, s3, F3, C3, eA.trans e3, hs3, S3, z⟩
    · obtain ⟨m', hm, z⟩ := z
      exact ⟨m', hm, s3, F3, C3, eA.trans e3, hs3, S3, z⟩
  | false => exact hE.nx s' σ' F1 C1 H1 eA (hs'.mono e1) S1 h1
theorem as_while {c : Expr} {body : List Stmt} {tc : TT} {tb : TS} {ac : AT'} {ab : AS'} (hc : AT B X c tc ac) (hb : ASs B X body tb ab) (hp : PassesOwn (model X.prog X.w) X.A X.env X.xe := by exact PassesOwn.never) : AS B X (.While c body [] pos) (tWhile tc tb) (aWhile ac ab) := ⟨ps_while hp hc.pt hb.ps, sim_while hc.sim hb.sim⟩

/-! ### comprehensions -/
def aYes : AT' := fun _ C P => P true C
theorem ats_nil : ATs B X [] tYes aYes := ⟨pts_nil, fun σ s F C R H Q P hs hS h k => k true F C H (Ex.refl F) hS h⟩
theorem ats_one {c : Expr} {t : TT} {a : AT'} (h : AT B X c t a) : ATs B X [c] t a := ⟨pts_one h.pt, h.sim⟩
/-- the list as it is made; fin: what becomes of it -/
def aLcW (w : AI') (g : AG') (t : AT') (e : AE') (vs : List Nat) (fin : List D → AH → Prop) : ASt → AH → Prop := fun s C => w s C fun items hold C1 => items.length ≤ sizeLine ∧ ∃ W : Nat → List D → AH → Prop, W 0 [] C1 ∧ (∀ i acc C', i ≤ items.length → W i acc C' → hold C') ∧
  (∀ i d acc C', items[i]? = some d → W i acc C' → g d (wipeA s vs) C' fun s2 C2 => t s2 C2 fun b C3 => if b = true then e s2 C3 fun y C4 => W (i + 1) (acc ++ [y]) C4 else W (i + 1) acc C3) ∧ ∀ acc C', W items.length acc C' → fin acc C'
def aLc (w : AI') (g : AG') (t : AT') (e : AE') (vs : List Nat) : AE' := fun s C P => aLcW w g t e vs (fun acc C' => P (.lst acc) C') s C
def aLcM (w : AI') (g : AG') (t : AT') (e : AE') (vs : List Nat) : AE' := fun s C P => aLcW w g t e vs (fun acc C' => ∀ p, C' p = none → P (.ce p) (put C' p (.lst acc))) s C
theorem lc_sim {wi : TI} {g : TG} {tt : TT} {te : TE} {vs : List Nat} {aw : AI'} {ag : AG'} {at' : AT'} {ae : AE'} {fin : List D → AH → Prop} (hi : SimI B K wi aw) (hg : SimG B K g ag) (hin : GIn vs g) (ht : SimT B K tt at') (he : SimE B K te ae)
    {σ : L2.St} {s : ASt} {F : Hp} {C : AH} {R H : Hp} {Q : VK} (hs : Slo K F s σ) (hS : Sat B K F C R H) (h : aLcW aw ag at' ae vs fin s C)
    (k : ∀ Dl acc accD F' C' H', Ex F F' → R Dl = none → Sat B K F' C' (upd R Dl (.lst acc)) H' → RepL K F' acc accD → fin accD C' → Q (.ref Dl) H') : tLc wi g tt te vs σ H Q := by
  refine hi σ s F C R H _ _ hs hS h fun items hold J F1 C1 H1 e1 S1 Wk h1 => ?_
  obtain ⟨hz, W, h0, hh, hstep, hend⟩ := h1
  intro Dl hD
  have hR := S1.freeR hD
  refine ⟨fun i m H' => m = items.length - i ∧ i ≤ items.length ∧ ∃ F' C' acc accD, Ex F1 F' ∧ Sat B K F' C' (upd R Dl (.lst acc)) H' ∧ RepL K F' acc accD ∧ accD.length ≤ i ∧ W i accD C',
    ⟨items.length, by simp, Nat.zero_le _, F1, C1, [], [], Ex.refl F1, S1.setR (S1.freeF hD) (S1.freeC hD) (S1.freeB hR) _, .nil, Nat.le_refl _, h0⟩, ?_⟩
  rintro i m H' ⟨rfl, hi, F', C', acc, accD, e', S', ra, hl, w⟩
  by_cases hlt : i < items.length
  · refine .inr ⟨Wk.go F' C' _ H' i e' S' (hh i accD C' hi w) hlt, fun H2 => ∃ F2 C2 acc accD, Ex F1 F2 ∧ Sat B K F2 C2 (upd R Dl (.lst acc)) H2 ∧ RepL K F2 acc accD ∧ accD.length ≤ i + 1 ∧ W (i + 1) accD C2, fun H2 z => ⟨items.length - (i + 1), by omega, rfl, hlt, z⟩, fun x H'' y => ?_⟩
    obtain ⟨d, F'', hd, e'', S'', r⟩ := Wk.yld F' C' _ H' i x H'' e' S' (hh i accD C' hi w) hlt y
    refine hin x _ H'' (fun σ2 H2 => tt σ2 H2 fun b H3 => if b = true then te σ2 H3 fun y H4 => ∃ acc, H4 Dl = some (.lst acc) ∧ acc.length < sizeLine ∧ ∃ F2 C2 acc2 accD, Ex F1 F2 ∧ Sat B K F2 C2 (upd R Dl (.lst acc2)) (upd H4 Dl (.lst (acc ++ [y]))) ∧ RepL K F2 acc2 accD ∧ accD.length ≤ i + 1 ∧ W (i + 1) accD C2
      else ∃ F2 C2 acc accD, Ex F1 F2 ∧ Sat B K F2 C2 (upd R Dl (.lst acc)) H3 ∧ RepL K F2 acc accD ∧ accD.length ≤ i + 1 ∧ W (i + 1) accD C2) _ ?_ fun σ2 H2 w2 q => ⟨w2.trans (wipe_wipe σ vs), q⟩
    refine hg x d _ (wipeA s vs) F'' C' _ H'' _ _ ((hs.mono ((e1.trans e').trans e'')).wipe vs) S'' r (hstep i d accD C' hd w) fun s2 σ2 F2 C2 H2 e2 hs2 S2 h2 => ?_
    refine ht σ2 s2 F2 C2 _ H2 _ _ hs2 S2 h2 fun b F3 C3 H3 e3 S3 h3 => ?_
    have eA : Ex F' F3 := (e''.trans e2).trans e3
    cases b with
    | true =>
      refine he σ2 s2 F3 C3 _ H3 _ _ (hs2.mono e3) S3 h3 fun y v F4 C4 H4 e4 S4 r4 h4 => ?_
      obtain ⟨f4, c4, d4⟩ := S4.priv Dl _ upd_same
      refine ⟨acc, d4, ?_, F4, C4, acc ++ [v], accD ++ [y], (e'.trans eA).trans e4, ?_, (ra.mono (eA.trans e4)).append (.cons r4 .nil), by rw [List.length_append]; exact Nat.succ_le_succ hl, h4⟩
      · rw [ra.length]; omega
      · have := S4.setR f4 c4 (S1.freeB hR) (.lst (acc ++ [v]))
        rw [upd_upd] at this
        exact this
    | false => exact ⟨F3, C3, acc, accD, e'.trans eA, S3, ra.mono eA, Nat.le_succ_of_le hl, h3⟩
  · have e : i = items.length := by omega
    subst e
    exact .inl ⟨Wk.stop F' C' _ H' e' S' (hh _ accD C' (Nat.le_refl _) w), k Dl acc accD F' C' H' (e1.trans e') hR S' ra (hend accD C' w)⟩
theorem sim_lc {wi : TI} {g : TG} {tt : TT} {te : TE} {vs : List Nat} {aw : AI'} {ag : AG'} {at' : AT'} {ae : AE'} (hi : SimI B K wi aw) (hg : SimG B K g ag) (hin : GIn vs g) (ht : SimT B K tt at') (he : SimE B K te ae) : SimE B K (tLc wi g tt te vs) (aLc aw ag at' ae vs) := fun σ s F C R H Q P hs hS h k => by
  refine lc_sim hi hg hin ht he hs hS h fun Dl acc accD F' C' H' e1 hR S r h1 => ?_
  have eN := Ex.new (o := .lst acc) (S.priv Dl _ upd_same).1
  exact k _ _ _ C' H' (e1.trans eN) (S.outF hR (hS.freeB hR)) (.lst upd_same (r.mono eN)) h1
theorem sim_lcM {wi : TI} {g : TG} {tt : TT} {te : TE} {vs : List Nat} {aw : AI'} {ag : AG'} {at' : AT'} {ae : AE'} (hi : SimI B K wi aw) (hg : SimG B K g ag) (hin : GIn vs g) (ht : SimT B K tt at') (he : SimE B K te ae) : SimE B K (tLc wi g tt te vs) (aLcM aw ag at' ae vs) := fun σ s F C R H Q P hs hS h k => by
  refine lc_sim hi hg hin ht he hs hS h fun Dl acc accD F' C' H' e1 hR S r h1 => ?_
  exact k _ _ F' _ H' e1 (S.outC hR (hS.freeB hR) (.lst r)) (.ce Dl) (h1 Dl (S.priv Dl _ upd_same).2.1)
section
variable {elt tg iter : Expr} {ifs : List Expr} {scope : Scope} {own : List (Str × Nat)} {wi : TI} {g : TG} {tt : TT} {te : TE} {aw : AI'} {ag : AG'} {at' : AT'} {ae : AE'}
theorem ae_lc (own : List (Str × Nat)) (hN : X.N.Nodup) (hi : AI B X tg iter wi aw) (ok : BlkOk X.N X.env.scope scope own)
    (hg : ∀ (s : Shared) (H : Hp) (C : Addr) (cl : List (Str × Addr)) (fp : List Addr), AG B (X.blk s H scope (compEnvC scope cl C X.env) fp) tg (own.map (·.2)) g ag) (ht : ∀ (s : Shared) (H : Hp) (C : Addr) (cl : List (Str × Addr)) (fp : List Addr), ATs B (X.blk s H scope (compEnvC scope cl C X.env) fp) ifs tt at')
    (he : ∀ (s : Shared) (H : Hp) (C : Addr) (cl : List (Str × Addr)) (fp : List Addr), AE B (X.blk s H scope (compEnvC scope cl C X.env) fp) elt te ae) (hc : X.calm = true := by rfl) (hs : ∀ x, foldedSetIterable iter X.env x = pure x := by intro _; rfl) :
    AE B X (.ListComp elt [⟨tg, iter, ifs, 0⟩] scope pos) (tLc wi g tt te (own.map (·.2))) (aLc aw ag at' ae (own.map (·.2))) :=
  ⟨pe_lc hc hN hi.pi ok (fun s H C cl fp => (hg s H C cl fp).pg) (fun s H C cl fp => (ht s H C cl fp).pts) (fun s H C cl fp => (he s H C cl fp).pe) hs,
    let G := hg X.s_0 (fun _ => none) 0 [] []
    sim_lc hi.sim G.sim G.inn (ht X.s_0 (fun _ => none) 0 [] []).sim (he X.s_0 (fun _ => none) 0 [] []).sim⟩
theorem ae_lcM (own : List (Str × Nat)) (hN : X.N.Nodup) (hi : AI B X tg iter wi aw) (ok : BlkOk X.N X.env.scope scope own)
    (hg : ∀ (s : Shared) (H : Hp) (C : Addr) (cl : List (Str × Addr)) (fp : List Addr), AG B (X.blk s H scope (compEnvC scope cl C X.env) fp) tg (own.map (·.2)) g ag) (ht : ∀ (s : Shared) (H : Hp) (C : Addr) (cl : List (Str × Addr)) (fp : List Addr), ATs B (X.blk s H scope (compEnvC scope cl C X.env) fp) ifs tt at')
    (he : ∀ (s : Shared) (H : Hp) (C : Addr) (cl : List (Str × Addr)) (fp : List Addr), AE B (X.blk s H scope (compEnvC scope cl C X.env) fp) elt te ae) (hc : X.calm = true := by rfl) (hs : ∀ x, foldedSetIterable iter X.env x = pure x := by intro _; rfl) :
    AE B X (.ListComp elt [⟨tg, iter, ifs, 0⟩] scope pos) (tLc wi g tt te (own.map (·.2))) (aLcM aw ag at' ae (own.map (·.2))) :=
  ⟨pe_lc hc hN hi.pi ok (fun s H C cl fp => (hg s H C cl fp).pg) (fun s H C cl fp => (ht s H C cl fp).pts) (fun s H C cl fp => (he s H C cl fp).pe) hs,
    let G := hg X.s_0 (fun _ => none) 0 [] []
    sim_lcM hi.sim G.sim G.inn (ht X.s_0 (fun _ => none) 0 [] []).sim (he X.s_0 (fun _ => none) 0 [] []).sim⟩
/-- name = [..] -/
theorem as_setLc (i : Nat) (own : List (Str × Nat)) {y : Str} {py spos : Pos} (hN : X.N.Nodup) (hi : AI B X tg iter wi aw) (hsw : swapsWith (.ListComp elt [⟨tg, iter, ifs, 0⟩] scope pos) (some (.Name y py)) spos.line X.env = pure true) (ok : BlkOk X.N X.env.scope scope own)
    (hg : ∀ (s : Shared) (H : Hp) (C : Addr) (cl : List (Str × Addr)) (fp : List Addr), AG B (X.blk s H scope (compEnvC scope cl C X.env) fp) tg (own.map (·.2)) g ag) (ht : ∀ (s : Shared) (H : Hp) (C : Addr) (cl : List (Str × Addr)) (fp : List Addr), ATs B (X.blk s H scope (compEnvC scope cl C X.env) fp) ifs tt at')
    (he : ∀ (s : Shared) (H : Hp) (C : Addr) (cl : List (Str × Addr)) (fp : List Addr), AE B (X.blk s H scope (compEnvC scope cl C X.env) fp) elt te ae) (hy : X.N[i]? = some y := by rfl) (hyl : X.env.scope.names.lookup y = some .local := by rfl) (hc : X.calm = true := by rfl) (hs : ∀ x, foldedSetIterable iter X.env x = pure x := by intro _; rfl) :
    AS B X (.Assign [.Name y py] (.ListComp elt [⟨tg, iter, ifs, 0⟩] scope pos) spos) (tAsg (tLc wi g tt te (own.map (·.2))) (gName i)) (aAsg (aLc aw ag at' ae (own.map (·.2))) (aGName i)) :=
  ⟨ps_setLc hc hN hy hyl hsw hi.pi ok (fun s H C cl fp => (hg s H C cl fp).pg) (fun s H C cl fp => (ht s H C cl fp).pts) (fun s H C cl fp => (he s H C cl fp).pe) hs,
    let G := hg X.s_0 (fun _ => none) 0 [] []
    sim_asg (sim_lc hi.sim G.sim G.inn (ht X.s_0 (fun _ => none) 0 [] []).sim (he X.s_0 (fun _ => none) 0 [] []).sim) (sim_name i)⟩
theorem as_setLcM (i : Nat) (own : List (Str × Nat)) {y : Str} {py spos : Pos} (hN : X.N.Nodup) (hi : AI B X tg iter wi aw) (hsw : swapsWith (.ListComp elt [⟨tg, iter, ifs, 0⟩] scope pos) (some (.Name y py)) spos.line X.env = pure true) (ok : BlkOk X.N X.env.scope scope own)
    (hg : ∀ (s : Shared) (H : Hp) (C : Addr) (cl : List (Str × Addr)) (fp : List Addr), AG B (X.blk s H scope (compEnvC scope cl C X.env) fp) tg (own.map (·.2)) g ag) (ht : ∀ (s : Shared) (H : Hp) (C : Addr) (cl : List (Str × Addr)) (fp : List Addr), ATs B (X.blk s H scope (compEnvC scope cl C X.env) fp) ifs tt at')
    (he : ∀ (s : Shared) (H : Hp) (C : Addr) (cl : List (Str × Addr)) (fp : List Addr), AE B (X.blk s H scope (compEnvC scope cl C X.env) fp) elt te ae) (hy : X.N[i]? = some y := by rfl) (hyl : X.env.scope.names.lookup y = some .local := by rfl) (hc : X.calm = true := by rfl) (hs : ∀ x, foldedSetIterable iter X.env x = pure x := by intro _; rfl) :
    AS B X (.Assign [.Name y py] (.ListComp elt [⟨tg, iter, ifs, 0⟩] scope pos) spos) (tAsg (tLc wi g tt te (own.map (·.2))) (gName i)) (aAsg (aLcM aw ag at' ae (own.map (·.2))) (aGName i)) :=
  ⟨ps_setLc hc hN hy hyl hsw hi.pi ok (fun s H C cl fp => (hg s H C cl fp).pg) (fun s H C cl fp => (ht s H C cl fp).pts) (fun s H C cl fp => (he s H C cl fp).pe) hs,
    let G := hg X.s_0 (fun _ => none) 0 [] []
    sim_asg (sim_lcM hi.sim G.sim G.inn (ht X.s_0 (fun _ => none) 0 [] []).sim (he X.s_0 (fun _ => none) 0 [] []).sim) (sim_name i)⟩
end
end
end AL
namespace AL
open PySem PySem.Spec L2
variable {B : Bs}
theorem law_sp {asp : ASp} {n : Nat} (h : ∀ ns : List Int, ns.length ≤ n → asp [.scr ns] (fun _ => none) (fun d _ => d = .bl true)) (K : PySem.W.Frag) (H : Hp) (a : Addr) (ns : List Int) (hn : ns.length ≤ n) (hS : SqL K H a (ns.map V.int)) :
    spOf K 1 asp [.ref a] H (fun v _ => v = .bl true) fun _ _ _ => False := by
  refine ⟨rfl, H, fun _ => none, fun _ => none, [.scr ns], fun d _ => d = .bl true, ⟨fun _ _ z => (by cases z), fun _ _ z => (by cases z), Ex.refl H, fun _ _ z => (by cases z), fun _ _ z => (by cases z)⟩, .cons (.scr hS) .nil, h ns hn, fun d v F' C' H' _ _ r e => ?_⟩
  subst e
  cases r
  rfl
end AL

namespace AL
open PySem L2
theorem atI_nat' {α : Type} {xs : List α} {i : Nat} {x : α} (h : xs[i]? = some x) : atI xs (i : Int) = some x := by
  have hi := (List.getElem?_eq_some_iff.mp h).1
  unfold atI ixN
  rw [if_pos (by omega), if_pos (by omega)]
  simpa using h
section
variable {a b : AS'} {nx : ASt → AH → Prop} {rt : D → AH → Prop} {bk ct : ASt → AH → Prop} {s : ASt} {C : AH} {e e1 e2 e3 : AE'} {t t1 t2 : AT'} {g : AG'} {P : D → AH → Prop} {PB : Bool → AH → Prop} {PA : List D → AH → Prop} {w : AI'} {aa : AA'}
/-! ### one step each -/
theorem g_body' {n : Nat} {ds : List D} {s : ASt} (h0 : ds.map some ++ List.replicate (n - ds.length) none = s) (h : a ⟨fun _ C' => P .non C', P, fun _ _ => False, fun _ _ => False⟩ s C) : aBody n a ds C P := by
  subst h0
  exact h
theorem g_gname' {i : Nat} {d : D} {Q : ASt → AH → Prop} {s' : ASt} (h0 : s.set i (some d) = s') (h : Q s' C) : aGName i d s C Q := by
  subst h0
  exact h
theorem g_body {n : Nat} {ds : List D} (h : a ⟨fun _ C' => P .non C', P, fun _ _ => False, fun _ _ => False⟩ (ds.map some ++ List.replicate (n - ds.length) none) C) : aBody n a ds C P := h
theorem g_seq (h : a ⟨b ⟨nx, rt, bk, ct⟩, rt, bk, ct⟩ s C) : aSeq a b ⟨nx, rt, bk, ct⟩ s C := h
theorem g_next (h : nx s C) : aNext ⟨nx, rt, bk, ct⟩ s C := h
theorem g_brk (h : bk s C) : aBrk ⟨nx, rt, bk, ct⟩ s C := h
theorem g_con (h : ct s C) : aCon ⟨nx, rt, bk, ct⟩ s C := h
theorem g_asg (h : e s C fun x C1 => g x s C1 nx) : aAsg e g ⟨nx, rt, bk, ct⟩ s C := h
theorem g_drop (h : e s C fun _ C1 => nx s C1) : aDrop e ⟨nx, rt, bk, ct⟩ s C := h
theorem g_ret (h : e s C rt) : aRet e ⟨nx, rt, bk, ct⟩ s C := h
theorem g_retN (h : rt .non C) : aRetN ⟨nx, rt, bk, ct⟩ s C := h
theorem g_ifS (h : t s C fun k C1 => if k = true then a ⟨nx, rt, bk, ct⟩ s C1 else b ⟨nx, rt, bk, ct⟩ s C1) : aIfS t a b ⟨nx, rt, bk, ct⟩ s C := h
theorem g_ifF (ht : ∀ K : Bool → AH → Prop, K false C → t s C K) (h : b ⟨nx, rt, bk, ct⟩ s C) : aIfS t a b ⟨nx, rt, bk, ct⟩ s C := ht _ h
theorem g_ifT (ht : ∀ K : Bool → AH → Prop, K true C → t s C K) (h : a ⟨nx, rt, bk, ct⟩ s C) : aIfS t a b ⟨nx, rt, bk, ct⟩ s C := ht _ h
/-- the cells may have turned -/
theorem g_ifFC {Z : AH → Prop} (ht : ∀ K : Bool → AH → Prop, (∀ C', Z C' → K false C') → t s C K) (h : ∀ C', Z C' → b ⟨nx, rt, bk, ct⟩ s C') : aIfS t a b ⟨nx, rt, bk, ct⟩ s C := ht _ h
/-- what a statement leaves, told by one word M -/
theorem g_cut (M : ASt → AH → Prop) (h : ∀ N : ASt → AH → Prop, (∀ s' C', M s' C' → N s' C') → a ⟨N, rt, bk, ct⟩ s C) (k : ∀ s' C', M s' C' → b ⟨nx, rt, bk, ct⟩ s' C') : aSeq a b ⟨nx, rt, bk, ct⟩ s C := h _ k
theorem g_ifJ (M : ASt → AH → Prop) (h : ∀ N : ASt → AH → Prop, (∀ s' C', M s' C' → N s' C') → aIfS t a b ⟨N, rt, bk, ct⟩ s C) (k : ∀ s' C', M s' C' → nx s' C') : aIfS t a b ⟨nx, rt, bk, ct⟩ s C := h nx k
theorem g_gname {i : Nat} {d : D} {Q : ASt → AH → Prop} (h : Q (s.set i (some d)) C) : aGName i d s C Q := h
theorem g_gtup {n : Nat} {ds : List D} {gs : AGs'} {Q : ASt → AH → Prop} (hn : ds.length = n) (h : gs ds s C Q) : aGTup n gs (.tup ds) s C Q := ⟨hn, h⟩
theorem g_gcons {d : D} {ds : List D} {gs : AGs'} {Q : ASt → AH → Prop} (h : g d s C fun s' C' => gs ds s' C' Q) : aGCons g gs (d :: ds) s C Q := h
theorem g_gnil {Q : ASt → AH → Prop} (h : Q s C) : aGNil [] s C Q := h
def kSet (p : Addr) (d : D) (s : ASt) (Q : ASt → AH → Prop) : D → AH → Prop := fun y C2 => match y with | .int j => (match C2 p with | some (.lst us) => (match ixN us.length j with | some k => Q s (put C2 p (.lst (us.set k d))) | none => False) | _ => False) | _ => False
/-- xs[i] = d, xs a name's cell -/
theorem g_gsetV {i : Nat} {d : D} {p : Addr} {Q : ASt → AH → Prop} (hi : s[i]? = some (some (.ce p))) (h : e2 s C (kSet p d s Q)) : aGSet (aVar i) e2 d s C Q := by
  unfold aGSet aVar
  rw [hi]
  refine (congrArg (e2 s C) ?_).mpr h
  funext y C2
  cases y <;> rfl
theorem g_kSet {j : Int} {p : Addr} {us : List D} {k : Nat} {d : D} {Q : ASt → AH → Prop} (h1 : C p = some (.lst us)) (h2 : ixN us.length j = some k) (h : Q s (put C p (.lst (us.set k d)))) : kSet p d s Q (.int j) C := by
  unfold kSet
  simp only [h1, h2]
  exact h
theorem g_frzL {i : Nat} {p : Addr} {ds : List D} {E : AEnds} (h0 : s[i]? = some (some (.ce p))) (h1 : C p = some (.lst ds)) (h : a E (s.set i (some (.lst ds))) (del C p)) : aFrz i a E s C := by
  unfold aFrz
  rw [h0]
  show (match C p with | some (.lst ds) => a E (s.set i (some (.lst ds))) (del C p) | some (.dk es) => a E (s.set i (some (.dk es))) (del C p) | _ => False)
  rw [h1]
  exact h
theorem g_frzK {i : Nat} {p : Addr} {ds : List (Key × D)} {E : AEnds} (h0 : s[i]? = some (some (.ce p))) (h1 : C p = some (.dk ds)) (h : a E (s.set i (some (.dk ds))) (del C p)) : aFrz i a E s C := by
  unfold aFrz
  rw [h0]
  show (match C p with | some (.lst ds) => a E (s.set i (some (.lst ds))) (del C p) | some (.dk es) => a E (s.set i (some (.dk es))) (del C p) | _ => False)
  rw [h1]
  exact h
theorem g_var {i : Nat} {d : D} (hi : s[i]? = some (some d)) (h : P d C) : aVar i s C P := by
  unfold aVar
  rw [hi]
  exact h
theorem g_yes (h : PB true C) : aYes s C PB := h
theorem g_c {d : D} (h : P d C) : aC d s C P := h
theorem g_op {r : D → D → AH → (D → AH → Prop) → Prop} (h : e1 s C fun x C1 => e2 s C1 fun y C2 => r x y C2 P) : aOp r e1 e2 s C P := h
theorem g_un {r : D → AH → (D → AH → Prop) → Prop} (h : e1 s C fun x C1 => r x C1 P) : aUn r e1 s C P := h
theorem g_I0 {f : Int → Int → D} {i j : Int} (h : P (f i j) C) : aI0 f (.int i) (.int j) C P := h
theorem g_I {c : Int → Int → Prop} {f : Int → Int → D} {i j : Int} (h1 : c i j) (h : P (f i j) C) : aI c f (.int i) (.int j) C P := ⟨h1, h⟩
theorem g_sub {i j : Int} (h : P (.int (i - j)) C) : aSub (.int i) (.int j) C P := h
theorem g_lt {i j : Int} (h : P (.bl (decide (i < j))) C) : aLt (.int i) (.int j) C P := h
theorem g_le {i j : Int} (h : P (.bl (decide (i ≤ j))) C) : aLe (.int i) (.int j) C P := h
theorem g_gt {i j : Int} (h : P (.bl (decide (j < i))) C) : aGt (.int i) (.int j) C P := h
theorem g_ge {i j : Int} (h : P (.bl (decide (j ≤ i))) C) : aGe (.int i) (.int j) C P := h
theorem g_mul {i j : Int} (h1 : CMul i j) (h : P (.int (i * j)) C) : aMul (.int i) (.int j) C P := ⟨h1, h⟩
theorem g_mulW {i j : Int} (h1 : CMulW i j) (h : P (.int (i * j)) C) : aMulW (.int i) (.int j) C P := ⟨h1, h⟩
theorem g_div {i j : Int} (h1 : CDiv i j) (h : P (.int (i / j)) C) : aDiv (.int i) (.int j) C P := ⟨h1, h⟩
theorem g_divW {i j : Int} (h1 : CDivW i j) (h : P (.int (i / j)) C) : aDivW (.int i) (.int j) C P := ⟨h1, h⟩
theorem g_mod {i j : Int} (h1 : 0 < j) (h : P (.int (i % j)) C) : aMod (.int i) (.int j) C P := ⟨h1, h⟩
theorem g_pow {i j : Int} (h1 : CPow i j) (h : P (.int (i ^ j.toNat)) C) : aPow (.int i) (.int j) C P := ⟨h1, h⟩
theorem g_addI {i j : Int} (h : P (.int (i + j)) C) : aAdd (.int i) (.int j) C P := h
theorem g_addS {i j : Str} (h1 : i.length + j.length ≤ sizeLine) (h : P (.str (i ++ j)) C) : aAdd (.str i) (.str j) C P := ⟨h1, h⟩
theorem g_addT {i j : List D} (h1 : i.length + j.length ≤ sizeLine) (h : P (.tup (i ++ j)) C) : aAdd (.tup i) (.tup j) C P := ⟨h1, h⟩
theorem g_addL {i j : List D} (h1 : i.length + j.length ≤ sizeLine) (h : P (.lst (i ++ j)) C) : aAdd (.lst i) (.lst j) C P := ⟨i, j, rfl, rfl, h1, h⟩
theorem g_addCL {p : Addr} {i j : List D} (h0 : C p = some (.lst i)) (h1 : i.length + j.length ≤ sizeLine) (h : P (.lst (i ++ j)) C) : aAdd (.ce p) (.lst j) C P := ⟨i, j, by simp [asL, h0], rfl, h1, h⟩
theorem g_eqII {i j : Int} (h : P (.bl (decide (i = j))) C) : aEq (.int i) (.int j) C P := h
theorem g_neII {i j : Int} (h : P (.bl (!decide (i = j))) C) : aNe (.int i) (.int j) C P := h
theorem g_eqBB {i j : Bool} (h : P (.bl (decide (i = j))) C) : aEq (.bl i) (.bl j) C P := h
theorem g_neBB {i j : Bool} (h : P (.bl (!decide (i = j))) C) : aNe (.bl i) (.bl j) C P := h
theorem g_eqTT {i j : Str} (h : P (.bl (decide (i = j))) C) : aEq (.str i) (.str j) C P := h
theorem g_neTT {i j : Str} (h : P (.bl (!decide (i = j))) C) : aNe (.str i) (.str j) C P := h
theorem g_eqS {x y : D} {k : Bool} (h1 : eqS x y = some k) (h : P (.bl k) C) : aEq x y C P := by
  unfold aEq aEqN
  rw [h1]
  exact h
theorem g_neS {x y : D} {k : Bool} (h1 : eqS x y = some k) (h : P (.bl (!k)) C) : aNe x y C P := by
  unfold aNe aEqN
  rw [h1]
  exact h
theorem g_eqP {x y : D} {u v : PyData} (h0 : eqS x y = none) (h1 : pdC C x = some u) (h2 : pdC C y = some v) (h3 : SeqAt.shaped u = true) (h4 : SeqAt.shaped v = true) (h : P (.bl (PyData.eqv u v)) C) : aEq x y C P := by
  unfold aEq aEqN
  rw [h0]
  exact ⟨u, v, h1, h2, h3, h4, h⟩
theorem g_neP {x y : D} {u v : PyData} (h0 : eqS x y = none) (h1 : pdC C x = some u) (h2 : pdC C y = some v) (h3 : SeqAt.shaped u = true) (h4 : SeqAt.shaped v = true) (h : P (.bl (!PyData.eqv u v)) C) : aNe x y C P := by
  unfold aNe aEqN
  rw [h0]
  exact ⟨u, v, h1, h2, h3, h4, h⟩
theorem isN1 {i : Int} : isNon (.int i) = false := rfl
theorem g_is {x : D} (h : P (.bl (isNon x)) C) : aIsN x .non C P := ⟨rfl, h⟩
theorem g_isnot {x : D} (h : P (.bl (!isNon x)) C) : aNotN x .non C P := ⟨rfl, h⟩
def kTru (PB : Bool → AH → Prop) : D → AH → Prop := fun x C1 => match truth C1 x with | some b => PB b C1 | none => False
theorem g_tru (h : e s C (kTru PB)) : aTru e s C PB := h
theorem g_kTru {x : D} {k : Bool} (h1 : truth C x = some k) (h : PB k C) : kTru PB x C := by
  unfold kTru
  rw [h1]
  exact h
theorem g_kTruB {k : Bool} (h : PB k C) : kTru PB (.bl k) C := h
def kB (PB : Bool → AH → Prop) : D → AH → Prop := fun x C1 => match x with | .bl b => PB b C1 | _ => False
theorem g_B (h : e s C (kB PB)) : aB e s C PB := h
theorem g_kB {k : Bool} (h : PB k C) : kB PB (.bl k) C := h
theorem g_and (h : t1 s C fun c C1 => if c = true then t2 s C1 PB else PB false C1) : aAnd t1 t2 s C PB := h
theorem g_or (h : t1 s C fun c C1 => if c = true then PB true C1 else t2 s C1 PB) : aOr t1 t2 s C PB := h
theorem g_not (h : t1 s C fun c C1 => PB (!c) C1) : aNot t1 s C PB := h
def kAndV (e2 : AE') (s : ASt) (P : D → AH → Prop) : D → AH → Prop := fun x C1 => match truth C1 x with | some true => e2 s C1 P | some false => P x C1 | none => False
def kOrV (e2 : AE') (s : ASt) (P : D → AH → Prop) : D → AH → Prop := fun x C1 => match truth C1 x with | some true => P x C1 | some false => e2 s C1 P | none => False
def kNotV (P : D → AH → Prop) : D → AH → Prop := fun x C1 => match truth C1 x with | some b => P (.bl (!b)) C1 | none => False
theorem g_andV (h : e1 s C (kAndV e2 s P)) : aAndV e1 e2 s C P := h
theorem g_orV (h : e1 s C (kOrV e2 s P)) : aOrV e1 e2 s C P := h
theorem g_notV (h : e1 s C (kNotV P)) : aNotV e1 s C P := h
theorem g_kAnd {k : Bool} (h1 : k = true → e2 s C P) (h2 : k = false → P (.bl false) C) : kAndV e2 s P (.bl k) C := by
  cases k
  · exact h2 rfl
  · exact h1 rfl
theorem g_kOr {k : Bool} (h1 : k = true → P (.bl true) C) (h2 : k = false → e2 s C P) : kOrV e2 s P (.bl k) C := by
  cases k
  · exact h2 rfl
  · exact h1 rfl
theorem g_kNot {k : Bool} (h : P (.bl (!k)) C) : kNotV P (.bl k) C := h
theorem g_kNot' {x : D} {k : Bool} (h1 : truth C x = some k) (h : P (.bl (!k)) C) : kNotV P x C := by
  unfold kNotV
  rw [h1]
  exact h
theorem g_if (h : t s C fun c C1 => if c = true then e1 s C1 P else e2 s C1 P) : aIf t e1 e2 s C P := h
theorem g_ite {A B : Prop} {k : Bool} (h1 : k = true → A) (h2 : k = false → B) : if k = true then A else B := by
  cases k
  · exact h2 rfl
  · exact h1 rfl
theorem g_iteD {A B : Prop} {p : Prop} [Decidable p] (h1 : p → A) (h2 : ¬ p → B) : if decide p = true then A else B := by
  by_cases h : p
  · rw [decide_eq_true h]; exact h1 h
  · rw [decide_eq_false h]; exact h2 h
theorem g_iteT {A B : Prop} (h : A) : if true = true then A else B := h
theorem g_iteF {A B : Prop} (h : B) : if false = true then A else B := h
theorem g_iteNT {A B : Prop} (h : B) : if (!true) = true then A else B := h
theorem g_iteNF {A B : Prop} (h : A) : if (!false) = true then A else B := h
theorem g_nil (h : PA [] C) : aNil s C PA := h
theorem g_cons (h : e s C fun x C1 => aa s C1 fun xs C2 => PA (x :: xs) C2) : aCons e aa s C PA := h
theorem g_tup (h : aa s C fun ds C1 => ds.length ≤ sizeLine ∧ P (.tup ds) C1) : aTup aa s C P := h
theorem g_lst (h : aa s C fun ds C1 => ds.length ≤ sizeLine ∧ P (.lst ds) C1) : aLst aa s C P := h
theorem g_lstM (h : aa s C fun ds C1 => ds.length ≤ sizeLine ∧ ∀ p, C1 p = none → P (.ce p) (put C1 p (.lst ds))) : aLstM aa s C P := h
theorem g_call {asp : ASp} (h : aa s C fun ds C1 => asp ds C1 P) : aCall asp aa s C P := h
def kIsi (T : String) (P : D → AH → Prop) : D → AH → Prop := fun x C1 => match kindOf C1 x with | some t => P (.bl (isT T t)) C1 | none => False
theorem g_isi {T : String} (h : e s C (kIsi T P)) : aIsi T e s C P := h
theorem g_kIsiI {T : String} {i : Int} (h : P (.bl (isT T "int")) C) : kIsi T P (.int i) C := h
theorem g_kIsiB {T : String} {i : Bool} (h : P (.bl (isT T "bool")) C) : kIsi T P (.bl i) C := h
theorem g_kIsiN {T : String} (h : P (.bl (isT T "NoneType")) C) : kIsi T P .non C := h
theorem g_kIsiS {T : String} {i : Str} (h : P (.bl (isT T "str")) C) : kIsi T P (.str i) C := h
theorem g_kIsiL {T : String} {i : List D} (h : P (.bl (isT T "list")) C) : kIsi T P (.lst i) C := h
theorem g_kIsiT {T : String} {i : List D} (h : P (.bl (isT T "tuple")) C) : kIsi T P (.tup i) C := h
theorem g_kIsiK {T : String} {i : List (Key × D)} (h : P (.bl (isT T "dict")) C) : kIsi T P (.dk i) C := h
theorem g_kIsi {T t : String} {x : D} (h1 : kindOf C x = some t) (h : P (.bl (isT T t)) C) : kIsi T P x C := by
  unfold kIsi
  rw [h1]
  exact h
theorem g_meth {T : String} {m : D → ASp} (h : e s C fun x C1 => isTy T C1 x = true ∧ aa s C1 fun ds C2 => m x ds C2 P) : aMeth T m e aa s C P := h
theorem g_meth0 {T : String} {m : D → ASp} (h : e s C fun x C1 => isTy T C1 x = true ∧ m x [] C1 P) : aMeth0 T m e s C P := h
theorem g_append {p : Addr} {us : List D} {d : D} (h1 : C p = some (.lst us)) (h2 : us.length < sizeLine) (h : P .non (put C p (.lst (us ++ [d])))) : aAppend (.ce p) [d] C P := by
  unfold aAppend
  show (match C p with | some (.lst us) => us.length < sizeLine ∧ P .non (put C p (.lst (us ++ [d]))) | _ => False)
  rw [h1]
  exact ⟨h2, h⟩
theorem isTy_ce {T : String} {p : Addr} {us : List D} (h1 : C p = some (.lst us)) (h2 : T = "list") : isTy T C (.ce p) = true := by
  subst h2
  simp [isTy, h1]
/-! subscripts by what stands there -/
theorem g_ixL {us : List D} {i : Int} {d : D} (h1 : atI us i = some d) (h : P d C) : aIx (.lst us) (.int i) C P := by
  show (match atI us i with | some d => P d C | none => False)
  rw [h1]; exact h
theorem g_ixT {us : List D} {i : Int} {d : D} (h1 : atI us i = some d) (h : P d C) : aIx (.tup us) (.int i) C P := by
  show (match atI us i with | some d => P d C | none => False)
  rw [h1]; exact h
theorem g_ixL0 {d : D} {us : List D} (h : P d C) : aIx (.lst (d :: us)) (.int 0) C P := g_ixL (atI_nat' (i := 0) rfl) h
theorem g_ixL1 {a d : D} {us : List D} (h : P d C) : aIx (.lst (a :: d :: us)) (.int 1) C P := g_ixL (atI_nat' (i := 1) rfl) h
theorem g_ixL2 {a b d : D} {us : List D} (h : P d C) : aIx (.lst (a :: b :: d :: us)) (.int 2) C P := g_ixL (atI_nat' (i := 2) rfl) h
theorem g_ixT0 {d : D} {us : List D} (h : P d C) : aIx (.tup (d :: us)) (.int 0) C P := g_ixT (atI_nat' (i := 0) rfl) h
theorem g_ixT1 {a d : D} {us : List D} (h : P d C) : aIx (.tup (a :: d :: us)) (.int 1) C P := g_ixT (atI_nat' (i := 1) rfl) h
theorem g_ixT2 {a b d : D} {us : List D} (h : P d C) : aIx (.tup (a :: b :: d :: us)) (.int 2) C P := g_ixT (atI_nat' (i := 2) rfl) h
theorem g_ixT3 {a b c d : D} {us : List D} (h : P d C) : aIx (.tup (a :: b :: c :: d :: us)) (.int 3) C P := g_ixT (atI_nat' (i := 3) rfl) h
theorem g_ixR {ns : List Int} {i : Int} {d : D} (h1 : atI (ns.map D.int) i = some d) (h : P d C) : aIx (.scr ns) (.int i) C P := by
  show (match atI (ns.map D.int) i with | some d => P d C | none => False)
  rw [h1]; exact h
theorem g_ixC {p : Addr} {us : List D} {i : Int} (h0 : C p = some (.lst us)) (h : aIx (.lst us) (.int i) C P) : aIx (.ce p) (.int i) C P := by
  show (match (match C p with | some (.lst us) => some us | _ => none) with | some ds => (match atI ds i with | some d => P d C | none => False) | none => False)
  rw [h0]
  exact h
theorem g_lenL {us : List D} (h : P (.int us.length) C) : aLen [.lst us] C P := h
theorem g_lenT {us : List D} (h : P (.int us.length) C) : aLen [.tup us] C P := h
theorem g_lenS {z : Str} (h1 : z.length ≤ sizeLine) (h : P (.int z.length) C) : aLen [.str z] C P := ⟨h1, h⟩
theorem g_lenR {ns : List Int} (h : P (.int ns.length) C) : aLen [.scr ns] C P := by
  show P (.int (ns.map D.int).length) C
  rw [List.length_map]; exact h
theorem g_lenC {p : Addr} {us : List D} (h0 : C p = some (.lst us)) (h : P (.int us.length) C) : aLen [.ce p] C P := by
  show (match C p with | some (.lst us) => P (.int us.length) C | some (.dk us) => P (.int us.length) C | _ => False)
  rw [h0]; exact h
theorem g_abs {i : Int} (h : P (.int (if i < 0 then -i else i)) C) : aAbs [.int i] C P := h
theorem g_max2 {i j : Int} (h : P (.int (if j > i then j else i)) C) : aMax2 [.int i, .int j] C P := h
theorem g_min2 {i j : Int} (h : P (.int (if j < i then j else i)) C) : aMin2 [.int i, .int j] C P := h
theorem g_intI {i : Int} (h : P (.int i) C) : aInt [.int i] C P := h
theorem g_intB {k : Bool} (h : P (.int (if k then 1 else 0)) C) : aInt [.bl k] C P := h
theorem g_listL {us : List D} (h : P (.lst us) C) : aListOf [.lst us] C P := h
theorem g_listT {us : List D} (h : P (.lst us) C) : aListOf [.tup us] C P := h
theorem g_listC {p : Addr} {us : List D} (h0 : C p = some (.lst us)) (h : P (.lst us) C) : aListOf [.ce p] C P := by
  show (match (match C p with | some (.lst us) => some us | _ => none) with | some us => P (.lst us) C | none => False)
  rw [h0]; exact h
theorem g_listMT {us : List D} (h : ∀ p, C p = none → P (.ce p) (put C p (.lst us))) : aListM [.tup us] C P := h
theorem g_listML {us : List D} (h : ∀ p, C p = none → P (.ce p) (put C p (.lst us))) : aListM [.lst us] C P := h
theorem g_tupleL {us : List D} (h : P (.tup us) C) : aTupleOf [.lst us] C P := h
theorem g_tupleT {us : List D} (h : P (.tup us) C) : aTupleOf [.tup us] C P := h
theorem g_all {us : List D} {bs : List Bool} (h1 : blsD us = some bs) (h : P (.bl (bs.all id)) C) : aAll [.lst us] C P := by
  show (match (some us).bind blsD with | some bs => P (.bl (bs.all id)) C | none => False)
  rw [Option.bind_some, h1]; exact h
theorem g_any {us : List D} {bs : List Bool} (h1 : blsD us = some bs) (h : P (.bl (bs.any id)) C) : aAny [.lst us] C P := by
  show (match (some us).bind blsD with | some bs => P (.bl (bs.any id)) C | none => False)
  rw [Option.bind_some, h1]; exact h
theorem g_sum {us : List D} {bs : List Int} (h1 : intsD us = some bs) (h : P (.int bs.sum) C) : aSum [.lst us] C P := by
  show (match (some us).bind intsD with | some bs => P (.int bs.sum) C | none => False)
  rw [Option.bind_some, h1]; exact h
theorem g_rev {us : List D} (h : P (.lst us.reverse) C) : aRev (.lst us) C P := h
/-! ### what is walked -/
variable {PI : List D → (AH → Prop) → AH → Prop}
def kIL (PI : List D → (AH → Prop) → AH → Prop) : D → AH → Prop := fun x C1 => match asLr C1 x with | some ds => PI ds (fun C' => asLr C' x = some ds) C1 | none => False
theorem g_il (h : e s C (kIL PI)) : aIL e s C PI := h
theorem g_kIL {us : List D} (h : PI us (fun _ => True) C) (e : ∀ C' : AH, asLr C' (.lst us) = some us) (m : (fun _ : AH => True) = fun C' : AH => asLr C' (.lst us) = some us) : kIL PI (.lst us) C := by
  show PI us (fun C' => asLr C' (.lst us) = some us) C
  rw [← m]
  exact h
theorem g_kILl {us : List D} (h : PI us (fun _ => True) C) : kIL PI (.lst us) C := g_kIL h (fun _ => rfl) (by funext C'; simp [asLr, asL])
theorem g_kILr {ns : List Int} (h : PI (ns.map D.int) (fun _ => True) C) : kIL PI (.scr ns) C := by
  show PI (ns.map D.int) (fun C' => asLr C' (.scr ns) = some (ns.map D.int)) C
  have m : (fun _ : AH => True) = fun C' : AH => asLr C' (.scr ns) = some (ns.map D.int) := by funext C'; simp [asLr]
  rw [← m]
  exact h
theorem g_kILc {p : Addr} {us : List D} (h0 : C p = some (.lst us)) (h : PI us (fun C' => C' p = some (.lst us)) C) (m : ∀ h1 h2 : AH → Prop, (∀ C, h1 C → h2 C) → PI us h1 C → PI us h2 C) : kIL PI (.ce p) C := by
  have e : ∀ C' : AH, C' p = some (.lst us) → asLr C' (.ce p) = some us := fun C' h => by simp [asLr, asL, h]
  show (match asLr C (.ce p) with | some ds => PI ds (fun C' => asLr C' (.ce p) = some ds) C | none => False)
  rw [e C h0]
  exact m _ _ e h
def kIT (PI : List D → (AH → Prop) → AH → Prop) : D → AH → Prop := fun x C1 => match asT x with | some ds => PI ds (fun _ => True) C1 | none => False
theorem g_it (h : e s C (kIT PI)) : aIT e s C PI := h
theorem g_kIT {us : List D} (h : PI us (fun _ => True) C) : kIT PI (.tup us) C := h
def kIS (PI : List D → (AH → Prop) → AH → Prop) : D → AH → Prop := fun x C1 => match x with | .str z => PI (signs z) (fun _ => True) C1 | _ => False
theorem g_is' (h : e s C (kIS PI)) : aIS e s C PI := h
theorem g_kIS {z : Str} (h : PI (signs z) (fun _ => True) C) : kIS PI (.str z) C := h
def kIR1 (PI : List D → (AH → Prop) → AH → Prop) : List D → AH → Prop := fun ds C1 => match ds with | [.int j] => -(2 ^ 62) ≤ j ∧ j < 2 ^ 62 ∧ PI (rangeD 0 j.toNat) (fun _ => True) C1 | _ => False
theorem g_ir1 (h : aa s C (kIR1 PI)) : aIR1 aa s C PI := h
theorem g_kIR1 {j : Int} (h1 : -(2 ^ 62) ≤ j) (h2 : j < 2 ^ 62) (h : PI (rangeD 0 j.toNat) (fun _ => True) C) : kIR1 PI [.int j] C := ⟨h1, h2, h⟩
def kIR2 (PI : List D → (AH → Prop) → AH → Prop) : List D → AH → Prop := fun ds C1 => match ds with | [.int i, .int j] => (-(2 ^ 62) ≤ i ∧ i < 2 ^ 62 ∧ -(2 ^ 62) ≤ j ∧ j < 2 ^ 62) ∧ PI (rangeD i (j - i).toNat) (fun _ => True) C1 | _ => False
theorem g_ir2 (h : aa s C (kIR2 PI)) : aIR2 aa s C PI := h
theorem g_kIR2 {i j : Int} (h1 : -(2 ^ 62) ≤ i ∧ i < 2 ^ 62 ∧ -(2 ^ 62) ≤ j ∧ j < 2 ^ 62) (h : PI (rangeD i (j - i).toNat) (fun _ => True) C) : kIR2 PI [.int i, .int j] C := ⟨h1, h⟩
def kIE (PI : List D → (AH → Prop) → AH → Prop) : List D → AH → Prop := fun us C1 => match us with | [x] => (match asLr C1 x with | some ds => PI (enumD ds) (fun C' => asLr C' x = some ds) C1 | none => False) | _ => False
theorem g_ie (h : aa s C (kIE PI)) : aIE aa s C PI := h
theorem g_kIE {us : List D} (h : PI (enumD us) (fun _ => True) C) : kIE PI [.lst us] C := by
  show PI (enumD us) (fun C' => asLr C' (.lst us) = some us) C
  have m : (fun _ : AH => True) = fun C' : AH => asLr C' (.lst us) = some us := by funext C'; simp [asLr, asL]
  rw [← m]
  exact h
def kIZ (PI : List D → (AH → Prop) → AH → Prop) : List D → AH → Prop := fun us C1 => match us with | [x, y] => (match asLr C1 x, asLr C1 y with | some ds, some es => PI (zipD ds es) (fun C' => asLr C' x = some ds ∧ asLr C' y = some es) C1 | _, _ => False) | _ => False
theorem g_iz (h : aa s C (kIZ PI)) : aIZ aa s C PI := h
theorem g_kIZ {us ws : List D} (h : PI (zipD us ws) (fun _ => True) C) : kIZ PI [.lst us, .lst ws] C := by
  show PI (zipD us ws) (fun C' => asLr C' (.lst us) = some us ∧ asLr C' (.lst ws) = some ws) C
  have m : (fun _ : AH => True) = fun C' : AH => asLr C' (.lst us) = some us ∧ asLr C' (.lst ws) = some ws := by funext C'; simp [asLr, asL]
  rw [← m]
  exact h
/-- a loop whose items are known -/
def kFor (g : AG') (ab : AS') (nx : ASt → AH → Prop) (rt : D → AH → Prop) (s : ASt) : List D → (AH → Prop) → AH → Prop := fun items hold C => ∃ W : Nat → ASt → AH → Prop, W 0 s C ∧ (∀ i s' C', i ≤ items.length → W i s' C' → hold C') ∧
  (∀ i d s' C', items[i]? = some d → W i s' C' → g d s' C' fun s2 C2 => ab ⟨W (i + 1), rt, nx, W (i + 1)⟩ s2 C2) ∧ ∀ s' C', W items.length s' C' → nx s' C'
theorem g_for {ab : AS'} (h : w s C (kFor g ab nx rt s)) : aFor w g ab ⟨nx, rt, bk, ct⟩ s C := h
theorem g_kFor {ab : AS'} {items : List D} (W : Nat → ASt → AH → Prop) (h0 : W 0 s C)
    (hs : ∀ i d s' C', items[i]? = some d → W i s' C' → g d s' C' fun s2 C2 => ab ⟨W (i + 1), rt, nx, W (i + 1)⟩ s2 C2) (hd : ∀ s' C', W items.length s' C' → nx s' C') : kFor g ab nx rt s items (fun _ => True) C :=
  ⟨W, h0, fun _ _ _ _ _ => trivial, hs, hd⟩
theorem g_kForH {ab : AS'} {items : List D} {hold : AH → Prop} (W : Nat → ASt → AH → Prop) (h0 : W 0 s C) (hh : ∀ i s' C', i ≤ items.length → W i s' C' → hold C')
    (hs : ∀ i d s' C', items[i]? = some d → W i s' C' → g d s' C' fun s2 C2 => ab ⟨W (i + 1), rt, nx, W (i + 1)⟩ s2 C2) (hd : ∀ s' C', W items.length s' C' → nx s' C') : kFor g ab nx rt s items hold C :=
  ⟨W, h0, hh, hs, hd⟩
theorem kFor_mono {ab : AS'} {items : List D} {h1 h2 : AH → Prop} (m : ∀ C, h1 C → h2 C) (h : kFor g ab nx rt s items h1 C) : kFor g ab nx rt s items h2 C := by
  obtain ⟨W, a, b, c, d⟩ := h
  exact ⟨W, a, fun i s' C' hi hw => m _ (b i s' C' hi hw), c, d⟩
/-- over a range -/
theorem g_kForR {ab : AS'} {lo : Int} {n j : Nat} (W : Nat → ASt → AH → Prop) (h0 : W 0 s C)
    (hs : ∀ (i : Nat) s' C', i < n → W i s' C' → ab ⟨W (i + 1), rt, nx, W (i + 1)⟩ (s'.set j (some (.int (lo + i)))) C') (hd : ∀ s' C', W n s' C' → nx s' C') : kFor (aGName j) ab nx rt s (rangeD lo n) (fun _ => True) C := by
  refine g_kFor W h0 (fun i d s' C' hi hw => ?_) (fun s' C' hw => hd s' C' (by rw [rangeD_len] at hw; exact hw))
  have hl : i < n := by
    have := (List.getElem?_eq_some_iff.mp hi).1
    rw [rangeD_len] at this
    exact this
  rw [rangeD_get hl] at hi
  cases hi
  exact hs i s' C' hl hw
theorem g_kForR0 {ab : AS'} {n j : Nat} (W : Nat → ASt → AH → Prop) (h0 : W 0 s C)
    (hs : ∀ (i : Nat) s' C', i < n → W i s' C' → ab ⟨W (i + 1), rt, nx, W (i + 1)⟩ (s'.set j (some (.int (i : Int)))) C') (hd : ∀ s' C', W n s' C' → nx s' C') : kFor (aGName j) ab nx rt s (rangeD 0 n) (fun _ => True) C :=
  g_kForR W h0 (fun i s' C' hi w => by rw [Int.zero_add]; exact hs i s' C' hi w) hd
/-- over a list of which something is known of each item -/
theorem g_kForL {ab : AS'} {items : List D} {j : Nat} (W : Nat → ASt → AH → Prop) (h0 : W 0 s C)
    (hs : ∀ (i : Nat) d s' C', items[i]? = some d → W i s' C' → ab ⟨W (i + 1), rt, nx, W (i + 1)⟩ (s'.set j (some d)) C') (hd : ∀ s' C', W items.length s' C' → nx s' C') : kFor (aGName j) ab nx rt s items (fun _ => True) C := g_kFor W h0 hs hd
theorem g_while {t : AT'} {ab : AS'} (W : Nat → ASt → AH → Prop) (m : Nat) (h0 : W m s C) (hs : ∀ m s' C', W m s' C' → t s' C' fun k C1 => if k = true then ab ⟨fun s2 C2 => ∃ m', m' < m ∧ W m' s2 C2, rt, nx, fun s2 C2 => ∃ m', m' < m ∧ W m' s2 C2⟩ s' C1 else nx s' C1) : aWhile t ab ⟨nx, rt, bk, ct⟩ s C := ⟨W, ⟨m, h0⟩, hs⟩
/-! ### comprehensions -/
def kLc (g : AG') (t : AT') (e : AE') (vs : List Nat) (fin : List D → AH → Prop) (s : ASt) : List D → (AH → Prop) → AH → Prop := fun items hold C1 => items.length ≤ sizeLine ∧ ∃ W : Nat → List D → AH → Prop, W 0 [] C1 ∧ (∀ i acc C', i ≤ items.length → W i acc C' → hold C') ∧
  (∀ i d acc C', items[i]? = some d → W i acc C' → g d (wipeA s vs) C' fun s2 C2 => t s2 C2 fun b C3 => if b = true then e s2 C3 fun y C4 => W (i + 1) (acc ++ [y]) C4 else W (i + 1) acc C3) ∧ ∀ acc C', W items.length acc C' → fin acc C'
theorem g_lc {t : AT'} {vs : List Nat} (h : w s C (kLc g t e vs (fun acc C' => P (.lst acc) C') s)) : aLc w g t e vs s C P := h
theorem g_lcM {t : AT'} {vs : List Nat} (h : w s C (kLc g t e vs (fun acc C' => ∀ p, C' p = none → P (.ce p) (put C' p (.lst acc))) s)) : aLcM w g t e vs s C P := h
theorem g_kLc {t : AT'} {vs : List Nat} {fin : List D → AH → Prop} {items : List D} (W : Nat → List D → AH → Prop) (hl : items.length ≤ sizeLine) (h0 : W 0 [] C)
    (hs : ∀ i d acc C', items[i]? = some d → W i acc C' → g d (wipeA s vs) C' fun s2 C2 => t s2 C2 fun b C3 => if b = true then e s2 C3 fun y C4 => W (i + 1) (acc ++ [y]) C4 else W (i + 1) acc C3) (hd : ∀ acc C', W items.length acc C' → fin acc C') : kLc g t e vs fin s items (fun _ => True) C :=
  ⟨hl, W, h0, fun _ _ _ _ _ => trivial, hs, hd⟩
theorem kLc_mono {t : AT'} {vs : List Nat} {fin : List D → AH → Prop} {items : List D} {h1 h2 : AH → Prop} (m : ∀ C, h1 C → h2 C) (h : kLc g t e vs fin s items h1 C) : kLc g t e vs fin s items h2 C := by
  obtain ⟨l, W, a, b, c, d⟩ := h
  exact ⟨l, W, a, fun i s' C' hi hw => m _ (b i s' C' hi hw), c, d⟩
/-- [f x for x in items], each as it stands, the cells stay -/
theorem g_kLcMap {vs : List Nat} {fin : List D → AH → Prop} {items : List D} {j : Nat} (f : D → D) (hl : items.length ≤ sizeLine) (hs : ∀ d, d ∈ items → ∀ R : D → AH → Prop, R (f d) C → e ((wipeA s vs).set j (some d)) C R) (hd : fin (items.map f) C) : kLc (aGName j) aYes e vs fin s items (fun _ => True) C := by
  refine g_kLc (fun i acc C' => acc = (items.take i).map f ∧ C' = C) hl ⟨rfl, rfl⟩ (fun i d acc C' hi hw => ?_) (fun acc C' hw => ?_)
  · obtain ⟨rfl, rfl⟩ := hw
    refine hs d (List.mem_of_getElem? hi) _ ⟨?_, rfl⟩
    rw [List.take_add_one, hi, List.map_append]
    rfl
  · obtain ⟨rfl, rfl⟩ := hw
    rw [List.take_length]
    exact hd
theorem g_kLcFilter {t : AT'} {vs : List Nat} {fin : List D → AH → Prop} {items : List D} {j : Nat} (p : D → Bool) (f : D → D) (hl : items.length ≤ sizeLine) (ht : ∀ d, d ∈ items → ∀ R : Bool → AH → Prop, R (p d) C → t ((wipeA s vs).set j (some d)) C R) (hs : ∀ d, d ∈ items → p d = true → ∀ R : D → AH → Prop, R (f d) C → e ((wipeA s vs).set j (some d)) C R) (hd : fin ((items.filter p).map f) C) : kLc (aGName j) t e vs fin s items (fun _ => True) C := by
  refine g_kLc (fun i acc C' => acc = ((items.take i).filter p).map f ∧ C' = C) hl ⟨rfl, rfl⟩ (fun i d acc C' hi hw => ?_) (fun acc C' hw => ?_)
  · obtain ⟨rfl, rfl⟩ := hw
    refine ht d (List.mem_of_getElem? hi) _ ?_
    rw [List.take_add_one, hi, List.filter_append, List.map_append]
    by_cases hp : p d = true
    · rw [if_pos hp]
      refine hs d (List.mem_of_getElem? hi) hp _ ⟨?_, rfl⟩
      simp [hp]
    · rw [if_neg hp]
      refine ⟨?_, rfl⟩
      simp [hp]
  · obtain ⟨rfl, rfl⟩ := hw
    rw [List.take_length]
    exact hd
end
theorem g_sz {n : Nat} {A : Prop} (h1 : n ≤ sizeLine) (h : A) : n ≤ sizeLine ∧ A := ⟨h1, h⟩
theorem g_ty {T : String} {C : AH} {d : D} {A : Prop} (h1 : isTy T C d = true) (h : A) : isTy T C d = true ∧ A := ⟨h1, h⟩
/-! ### cells that stand apart -/
theorem ne_cell {C : AH} {p q : Addr} {c : Cell} (h : C p = some c) (g : C q = none) : p ≠ q := fun z => by rw [z, g] at h; cases h
theorem put_old {C : AH} {p q : Addr} {c d : Cell} (h : C p = some c) (g : C q = none) : put C q d p = some c := by rw [put_ne (ne_cell h g)]; exact h
theorem put_other {C : AH} {p q : Addr} {o : Option Cell} {d : Cell} (hn : p ≠ q) (h : C p = o) : put C q d p = o := by rw [put_ne hn]; exact h
theorem del_other {C : AH} {p q : Addr} {o : Option Cell} (hn : p ≠ q) (h : C p = o) : del C q p = o := by unfold del; rw [if_neg hn]; exact h
theorem del_same {C : AH} {p : Addr} : del C p p = none := by unfold del; rw [if_pos rfl]
theorem atI_int {α : Type} {xs : List α} {i : Int} {x : α} (h0 : 0 ≤ i) (h : xs[i.toNat]? = some x) : atI xs i = some x := by
  have := atI_nat' h
  rwa [Int.toNat_of_nonneg h0] at this
end AL

namespace AL
open PySem L2
/-! ### plain trees: what == asks of them -/
mutual
def okD : D → Nat → Bool
  | .non, _ => true
  | .bl _, _ => true
  | .int _, _ => true
  | .str x, _ => x.cps.all (· < 0x110000)
  | .lst ds, n + 1 => okL ds n
  | .tup ds, n + 1 => okL ds n
  | _, _ => false
def okL : List D → Nat → Bool
  | [], _ => true
  | d :: ds, n => okD d n && okL ds n
end
theorem okL_all {ds : List D} {n : Nat} : okL ds n = true ↔ ∀ d ∈ ds, okD d n = true := by
  induction ds with
  | nil => simp [okL]
  | cons d ds ih => simp [okL, ih]
mutual
theorem okD_pd : ∀ (d : D) (n : Nat), okD d n = true → ∃ x, d.pd = some x ∧ x.canLay0 = true ∧ x.depth ≤ n
  | .non, n, _ => ⟨.none, by simp [D.pd], by simp [PyData.canLay0], by simp [PyData.depth]⟩
  | .bl b, n, _ => ⟨.bool b, by simp [D.pd], by simp [PyData.canLay0], by simp [PyData.depth]⟩
  | .int i, n, _ => ⟨.int i, by simp [D.pd], by simp [PyData.canLay0], by simp [PyData.depth]⟩
  | .str x, n, h => ⟨.str x, by simp [D.pd], by simpa [PyData.canLay0, PyData.strOk, okD] using h, by simp [PyData.depth]⟩
  | .lst ds, 0, h => by simp [okD] at h
  | .lst ds, n + 1, h => by
    obtain ⟨xs, h1, h2, h3⟩ := okL_pd ds n (by simpa [okD] using h)
    exact ⟨.list xs, by simp [D.pd, h1], by simpa [PyData.canLay0] using h2, by simp [PyData.depth]; omega⟩
  | .tup ds, 0, h => by simp [okD] at h
  | .tup ds, n + 1, h => by
    obtain ⟨xs, h1, h2, h3⟩ := okL_pd ds n (by simpa [okD] using h)
    exact ⟨.tuple xs, by simp [D.pd, h1], by simpa [PyData.canLay0] using h2, by simp [PyData.depth]; omega⟩
  | .dk _, _, h => by simp [okD] at h
  | .scr _, _, h => by simp [okD] at h
  | .ce _, _, h => by simp [okD] at h
theorem okL_pd : ∀ (ds : List D) (n : Nat), okL ds n = true → ∃ xs, pdL ds = some xs ∧ PyData.canLayAll0 xs = true ∧ PyData.depthAll xs ≤ n
  | [], n, _ => ⟨[], by simp [pdL], by simp [PyData.canLayAll0], by simp [PyData.depthAll]⟩
  | d :: ds, n, h => by
    simp only [okL, Bool.and_eq_true] at h
    obtain ⟨x, a1, a2, a3⟩ := okD_pd d n h.1
    obtain ⟨xs, b1, b2, b3⟩ := okL_pd ds n h.2
    exact ⟨x :: xs, by simp [pdL, a1, b1], by simp [PyData.canLayAll0, a2, b2], by simp [PyData.depthAll]; omega⟩
end
theorem okD_shaped {d : D} {n : Nat} (h : okD d n = true) (hn : n ≤ 64) : ∃ x, d.pd = some x ∧ SeqAt.shaped x = true ∧ PyData.eqv x x = true := by
  obtain ⟨x, h1, h2, h3⟩ := okD_pd d n h
  refine ⟨x, h1, ?_, SeqAt.eqv_refl x h2⟩
  unfold SeqAt.shaped
  rw [h2, decide_eq_true (show x.depth ≤ 64 by omega)]
  rfl
theorem eqS_self {d : D} {b : Bool} (h : eqS d d = some b) : b = true := by
  cases d <;> simp [eqS] at h <;> exact h
theorem pdC_ok' {C : AH} {d : D} {n : Nat} (h : okD d n = true) : pdC C d = d.pd := by
  cases d <;> first | rfl | (simp [okD] at h)
/-- a thing and itself -/
theorem g_eqR {C : AH} {d : D} {P : D → AH → Prop} (n : Nat) (h : okD d n = true) (hn : n ≤ 64) (k : P (.bl true) C) : aEq d d C P := by
  unfold aEq aEqN
  split
  · rename_i b e
    rw [eqS_self e]
    exact k
  · obtain ⟨x, h1, h2, h3⟩ := okD_shaped h hn
    exact ⟨x, x, (pdC_ok' h).trans h1, (pdC_ok' h).trans h1, h2, h2, by rw [h3]; exact k⟩
theorem g_neR {C : AH} {d : D} {P : D → AH → Prop} (n : Nat) (h : okD d n = true) (hn : n ≤ 64) (k : P (.bl false) C) : aNe d d C P := by
  unfold aNe aEqN
  split
  · rename_i b e
    rw [eqS_self e]
    exact k
  · obtain ⟨x, h1, h2, h3⟩ := okD_shaped h hn
    exact ⟨x, x, (pdC_ok' h).trans h1, (pdC_ok' h).trans h1, h2, h2, by rw [h3]; exact k⟩
theorem okD_lst {ds : List D} {n : Nat} (h : ∀ d ∈ ds, okD d n = true) : okD (.lst ds) (n + 1) = true := by
  simp only [okD]; exact okL_all.mpr h
theorem okD_tup {ds : List D} {n : Nat} (h : ∀ d ∈ ds, okD d n = true) : okD (.tup ds) (n + 1) = true := by
  simp only [okD]; exact okL_all.mpr h
/-! ### stands, or None -/
def oD : Option Nat → D
  | none => .non
  | some n => .int (n : Int)
@[simp] theorem okD_oD (o : Option Nat) (n : Nat) : okD (oD o) n = true := by cases o <;> simp [oD, okD]
theorem isNon_oD (o : Option Nat) : isNon (oD o) = o.isNone := by cases o <;> rfl
/-- a machine as a tree -/
abbrev goesD (goes : List (List (Option Nat))) : D := .lst (goes.map fun r => .lst (r.map oD))
abbrev endsD (ends : List Bool) : D := .lst (ends.map .bl)
abbrev machD (ends : List Bool) (goes : List (List (Option Nat))) : D := .tup [endsD ends, goesD goes]
theorem okD_goes (goes : List (List (Option Nat))) (n : Nat) : okD (goesD goes) (n + 2) = true := by
  refine okD_lst fun d hd => ?_
  obtain ⟨r, _, rfl⟩ := List.mem_map.mp hd
  refine okD_lst fun d hd => ?_
  obtain ⟨o, _, rfl⟩ := List.mem_map.mp hd
  exact okD_oD o n
theorem okD_ends (ends : List Bool) (n : Nat) : okD (endsD ends) (n + 1) = true := by
  refine okD_lst fun d hd => ?_
  obtain ⟨r, _, rfl⟩ := List.mem_map.mp hd
  simp [okD]
theorem okD_mach (ends : List Bool) (goes : List (List (Option Nat))) (n : Nat) : okD (machD ends goes) (n + 3) = true := by
  refine okD_tup fun d hd => ?_
  simp only [List.mem_cons, List.not_mem_nil, or_false] at hd
  rcases hd with rfl | rfl
  · exact okD_ends ends (n + 1)
  · exact okD_goes goes n
/-- sg signs; every stand that is led to is there -/
structure Mach (sg : Nat) (ends : List Bool) (goes : List (List (Option Nat))) : Prop where
  len : ends.length = goes.length
  pos : 0 < ends.length
  most : ends.length ≤ 1000
  row : ∀ r ∈ goes, r.length = sg
  go : ∀ r ∈ goes, ∀ t, some t ∈ r → t < ends.length
def stepO (goes : List (List (Option Nat))) (s : Option Nat) (n : Nat) : Option Nat := match s with
  | none => none
  | some t => match goes[t]? with
    | some r => (match r[n]? with | some o => o | none => none)
    | none => none
def runO (goes : List (List (Option Nat))) (s : Option Nat) (row : List Nat) : Option Nat := row.foldl (stepO goes) s
def inn (n : Nat) (s : Option Nat) : Prop := ∀ t, s = some t → t < n
theorem Mach.step {sg : Nat} {ends : List Bool} {goes : List (List (Option Nat))} (M : Mach sg ends goes) {s : Option Nat} {n : Nat} (hs : inn ends.length s) (hn : n < sg) : inn ends.length (stepO goes s n) := by
  intro t ht
  cases s with
  | none => cases ht
  | some u =>
    have hu := hs u rfl
    have hu' : u < goes.length := by rw [← M.len]; exact hu
    have hr := M.row goes[u] (List.getElem_mem hu')
    simp only [stepO, List.getElem?_eq_getElem hu', List.getElem?_eq_getElem (show n < goes[u].length by rw [hr]; exact hn)] at ht
    exact M.go goes[u] (List.getElem_mem hu') t (by rw [← ht]; exact List.getElem_mem _)
theorem Mach.run {sg : Nat} {ends : List Bool} {goes : List (List (Option Nat))} (M : Mach sg ends goes) : ∀ (row : List Nat) {s : Option Nat}, inn ends.length s → (∀ n ∈ row, n < sg) → inn ends.length (runO goes s row)
  | [], _, hs, _ => hs
  | n :: row, _, hs, hr => M.run row (M.step hs (hr n (List.mem_cons_self))) fun k hk => hr k (List.mem_cons_of_mem _ hk)
section
variable {sg : Nat} {ends : List Bool} {goes : List (List (Option Nat))} {C : AH} {P : D → AH → Prop}
theorem get_go (M : Mach sg ends goes) {u n : Nat} (hu : u < ends.length) (hn : n < sg) (h : ∀ r, goes[u]? = some r → r.length = sg → P (.lst (r.map oD)) C) : aIx (goesD goes) (.int (u : Int)) C P := by
  have hu' : u < goes.length := by rw [← M.len]; exact hu
  refine g_ixL (d := .lst (goes[u].map oD)) (atI_nat' ?_) (h goes[u] (List.getElem?_eq_getElem hu') (M.row _ (List.getElem_mem hu')))
  rw [List.getElem?_map, List.getElem?_eq_getElem hu']
  rfl
theorem get_in {r : List (Option Nat)} {n : Nat} (hn : n < r.length) (h : P (oD r[n]) C) : aIx (.lst (r.map oD)) (.int (n : Int)) C P := by
  refine g_ixL (atI_nat' ?_) h
  rw [List.getElem?_map, List.getElem?_eq_getElem hn]
  rfl
theorem get_end {u : Nat} (hu : u < ends.length) (h : P (.bl ends[u]) C) : aIx (endsD ends) (.int (u : Int)) C P := by
  refine g_ixL (atI_nat' ?_) h
  rw [List.getElem?_map, List.getElem?_eq_getElem hu]
  rfl
end
theorem stepO_some {goes : List (List (Option Nat))} {u n : Nat} {r : List (Option Nat)} (h : goes[u]? = some r) (hn : n < r.length) : stepO goes (some u) n = r[n] := by
  simp only [stepO, h, List.getElem?_eq_getElem hn]
end AL
namespace AL
open PySem L2
abbrev natsD (row : List Nat) : List D := row.map fun (n : Nat) => D.int (n : Int)
theorem natsD_get {row : List Nat} {i : Nat} {d : D} (h : (natsD row)[i]? = some d) : ∃ hi : i < row.length, d = .int (row[i] : Nat) := by
  unfold natsD at h
  rw [List.getElem?_map] at h
  cases q : row[i]? with
  | none => rw [q] at h; cases h
  | some n =>
    rw [q] at h
    obtain ⟨hi, e⟩ := List.getElem?_eq_some_iff.mp q
    cases h
    exact ⟨hi, by rw [e]⟩
@[simp] theorem natsD_len (row : List Nat) : (natsD row).length = row.length := by unfold natsD; rw [List.length_map]
theorem runO_take {goes : List (List (Option Nat))} {s : Option Nat} {row : List Nat} {i : Nat} (hi : i < row.length) : runO goes s (row.take (i + 1)) = stepO goes (runO goes s (row.take i)) row[i] := by
  unfold runO
  rw [List.take_add_one, List.getElem?_eq_getElem hi, List.foldl_append]
  rfl
theorem okD_nats (row : List Nat) (n : Nat) : okD (.lst (natsD row)) (n + 1) = true := by
  refine okD_lst fun d hd => ?_
  obtain ⟨r, _, rfl⟩ := List.mem_map.mp hd
  simp [okD]
theorem enumD_inv {ds : List D} {i : Nat} {d : D} (h : (enumD ds)[i]? = some d) : ∃ x, ds[i]? = some x ∧ d = .tup [.int i, x] := by
  have hi := (List.getElem?_eq_some_iff.mp h).1
  rw [enumD_len] at hi
  refine ⟨ds[i], List.getElem?_eq_getElem hi, ?_⟩
  rw [enumD_get (List.getElem?_eq_getElem hi)] at h
  cases h
  rfl
end AL

namespace AL
open PySem PySem.Spec L2
variable {B : Bs}
/-! ### dicts with keys ints and texts -/
def keyOf : D → Option Key
  | .int i => some (.inl i)
  | .str x => some (.inr x)
  | _ => none
def valD (es : List (Key × D)) (k : Key) : Option D := (es.find? fun kv => decide (kv.1 = k)).map (·.2)
def putD (es : List (Key × D)) (k : Key) (d : D) : List (Key × D) :=
  if (es.any fun kv => decide (kv.1 = k)) = true then es.map (fun kv => if kv.1 = k then (kv.1, d) else kv) else es ++ [(k, d)]
def asK (C : AH) : D → Option (List (Key × D))
  | .dk es => some es
  | .ce p => (match C p with | some (.dk es) => some es | _ => none)
  | _ => none
section
variable {K : PySem.W.Frag} {F F' : Hp} {C : AH} {R H : Hp}
theorem keyOf_ok {v : V} {d : D} {k : Key} (r : Rep K F v d) (h : keyOf d = some k) : v = kV k := by
  cases r <;> simp [keyOf] at h <;> subst h <;> rfl
theorem RepK.val (k : Key) : ∀ {vs : List (Key × V)} {ds : List (Key × D)}, RepK K F vs ds → (match valD ds k with | some d => ∃ v, valV vs k = some v ∧ Rep K F v d | none => valV vs k = none)
  | _, _, .nil => rfl
  | (j, v) :: vs, (_, d) :: ds, .cons r t => by
    have ih := RepK.val k t
    unfold valD valV at ih ⊢
    by_cases e : j = k
    · subst e
      simp only [List.find?_cons, decide_true, Option.map_some]
      exact ⟨v, rfl, r⟩
    · simp only [List.find?_cons, decide_eq_false e]
      exact ih
theorem RepK.any (k : Key) : ∀ {vs : List (Key × V)} {ds : List (Key × D)}, RepK K F vs ds → (vs.any fun kv => decide (kv.1 = k)) = ds.any fun kv => decide (kv.1 = k)
  | _, _, .nil => rfl
  | _, _, .cons r t => by rw [List.any_cons, List.any_cons, RepK.any k t]
theorem RepK.repl (k : Key) {v : V} {d : D} (r : Rep K F v d) : ∀ {vs : List (Key × V)} {ds : List (Key × D)}, RepK K F vs ds → RepK K F (vs.map fun kv => if kv.1 = k then (kv.1, v) else kv) (ds.map fun kv => if kv.1 = k then (kv.1, d) else kv)
  | _, _, .nil => .nil
  | (j, _) :: _, _, .cons q t => by
    rw [List.map_cons, List.map_cons]
    by_cases e : j = k
    · rw [if_pos e, if_pos e]; exact .cons r (RepK.repl k r t)
    · rw [if_neg e, if_neg e]; exact .cons q (RepK.repl k r t)
theorem RepK.snoc (k : Key) {v : V} {d : D} (r : Rep K F v d) : ∀ {vs : List (Key × V)} {ds : List (Key × D)}, RepK K F vs ds → RepK K F (vs ++ [(k, v)]) (ds ++ [(k, d)])
  | _, _, .nil => .cons r .nil
  | _, _, .cons q t => .cons q (RepK.snoc k r t)
theorem RepK.put (k : Key) {v : V} {d : D} (r : Rep K F v d) {vs : List (Key × V)} {ds : List (Key × D)} (h : RepK K F vs ds) : RepK K F (putK vs k v) (putD ds k d) := by
  unfold putK putD
  rw [RepK.any k h]
  split
  · exact RepK.repl k r h
  · exact RepK.snoc k r h
theorem asK_ok {v : V} {d : D} {es : List (Key × D)} (hS : Sat B K F C R H) (r : Rep K F v d) (h : asK C d = some es) : ∃ a kvs, v = .ref a ∧ H a = some (.dK kvs) ∧ RepK K F kvs es := by
  cases d with
  | dk e =>
    cases h
    cases r with
    | dk h1 h2 => exact ⟨_, _, rfl, hS.ex _ _ h1, h2⟩
  | ce p =>
    cases r
    have h : (match C p with | some (.dk es) => some es | _ => none) = some es := h
    cases q : C p with
    | none => rw [q] at h; cases h
    | some c =>
      rw [q] at h
      obtain ⟨_, o, h1, h2⟩ := hS.cell p c q
      cases c with
      | dk e =>
        cases h
        cases h2 with
        | dk h3 => exact ⟨p, _, rfl, h1, h3⟩
      | _ => cases h
  | _ => cases h
end
/-- d[k] -/
def aGetK (o i : AE') : AE' := fun s C P => o s C fun x C1 => i s C1 fun y C2 => match asK C2 x, keyOf y with
  | some es, some k => (match valD es k with | some d => P d C2 | none => False)
  | _, _ => False
theorem sim_getK {K : PySem.W.Frag} {to ti : TE} {ao ai : AE'} (ho : SimE B K to ao) (hi : SimE B K ti ai) : SimE B K (tDGet to ti) (aGetK ao ai) := by
  intro σ s F C R H Q P hs hS h k
  refine ho σ s F C R H _ _ hs hS h fun x v F1 C1 H1 e1 S1 r1 h1 => ?_
  refine hi σ s F1 C1 R H1 _ _ (hs.mono e1) S1 h1 fun y w F2 C2 H2 e2 S2 r2 h2 => ?_
  split at h2
  · rename_i es ky q1 q2
    split at h2
    · rename_i d q3
      obtain ⟨a, kvs, rfl, h3, h4⟩ := asK_ok S2 (r1.mono e2) q1
      have h5 := RepK.val ky h4
      rw [q3] at h5
      obtain ⟨u, h6, h7⟩ := h5
      refine ⟨a, u, rfl, ?_, k _ _ F2 C2 H2 (e1.trans e2) S2 h7 h2⟩
      rw [keyOf_ok r2 q2, ← h6]
      exact .k h3
    · exact h2.elim
  · exact h2.elim
theorem ae_getK {X : Cx} {pos : Pos} {o i : Expr} {to ti : TE} {ao ai : AE'} (hu : X.A.units + 1 < cLine) (ho : AE B X o to ao) (hi : AE B X i ti ai) (hs : NoSl i := by exact fun _ _ => rfl) : AE B X (.Subscript o i pos) (tDGet to ti) (aGetK ao ai) :=
  ⟨pe_dget hu ho.pe hi.pe hs, sim_getK ho.sim hi.sim⟩
/-- k in d -/
def aInK (neg : Bool) (i o : AE') : AE' := fun s C P => i s C fun y C1 => o s C1 fun x C2 => match asK C2 x, keyOf y with
  | some es, some k => P (.bl (if neg then !(valD es k).isSome else (valD es k).isSome)) C2
  | _, _ => False
theorem valK_some {K : PySem.W.Frag} {F : Hp} {k : Key} {vs : List (Key × V)} {ds : List (Key × D)} (h : RepK K F vs ds) : (valV vs k).isSome = (valD ds k).isSome := by
  have := RepK.val k h
  cases q : valD ds k with
  | none => rw [q] at this; rw [show valV vs k = none from this]; rfl
  | some d => rw [q] at this; obtain ⟨v, e, _⟩ := this; rw [e]; rfl
theorem sim_inK {K : PySem.W.Frag} {to ti : TE} {ao ai : AE'} (ho : SimE B K to ao) (hi : SimE B K ti ai) : SimE B K (tDIn ti to) (aInK false ai ao) := by
  intro σ s F C R H Q P hs hS h k
  refine hi σ s F C R H _ _ hs hS h fun y v F1 C1 H1 e1 S1 r1 h1 => ?_
  refine ho σ s F1 C1 R H1 _ _ (hs.mono e1) S1 h1 fun x w F2 C2 H2 e2 S2 r2 h2 => ?_
  split at h2
  · rename_i es ky q1 q2
    obtain ⟨a, kvs, rfl, h3, h4⟩ := asK_ok S2 r2 q1
    refine ⟨a, valV kvs ky, rfl, ?_, ?_⟩
    · rw [keyOf_ok r1 q2]; exact .k h3
    · rw [valK_some h4]
      exact k _ _ F2 C2 H2 (e1.trans e2) S2 (.bl _) h2
  · exact h2.elim
theorem sim_notInK {K : PySem.W.Frag} {to ti : TE} {ao ai : AE'} (ho : SimE B K to ao) (hi : SimE B K ti ai) : SimE B K (tDNotIn ti to) (aInK true ai ao) := by
  intro σ s F C R H Q P hs hS h k
  refine hi σ s F C R H _ _ hs hS h fun y v F1 C1 H1 e1 S1 r1 h1 => ?_
  refine ho σ s F1 C1 R H1 _ _ (hs.mono e1) S1 h1 fun x w F2 C2 H2 e2 S2 r2 h2 => ?_
  split at h2
  · rename_i es ky q1 q2
    obtain ⟨a, kvs, rfl, h3, h4⟩ := asK_ok S2 r2 q1
    refine ⟨a, valV kvs ky, rfl, ?_, ?_⟩
    · rw [keyOf_ok r1 q2]; exact .k h3
    · rw [valK_some h4]
      exact k _ _ F2 C2 H2 (e1.trans e2) S2 (.bl _) h2
  · exact h2.elim
section
variable {X : Cx} {pos : Pos} {o i e : Expr} {to ti te : TE} {ao ai a : AE'}
theorem ae_inK (hu : X.A.units + 1 < cLine) (hi : AE B X i ti ai) (ho : AE B X o to ao) (h1 : behindInMarks .In o = false := by rfl) : AE B X (.Compare i [.In] [o] pos) (tDIn ti to) (aInK false ai ao) :=
  ⟨pe_cmp (pc_din hu hi.pe ho.pe) h1, sim_inK ho.sim hi.sim⟩
theorem ae_notInK (hu : X.A.units + 1 < cLine) (hi : AE B X i ti ai) (ho : AE B X o to ao) (h1 : behindInMarks .NotIn o = false := by rfl) : AE B X (.Compare i [.NotIn] [o] pos) (tDNotIn ti to) (aInK true ai ao) :=
  ⟨pe_cmp (pc_dnotin hu hi.pe ho.pe) h1, sim_notInK ho.sim hi.sim⟩
theorem at_inK (hu : X.A.units + 1 < cLine) (hi : AE B X i ti ai) (ho : AE B X o to ao) (h1 : behindInMarks .In o = false := by rfl) : AT B X (.Compare i [.In] [o] pos) (tTest (tDIn ti to)) (aB (aInK false ai ao)) :=
  ⟨pt_cmp (pc_din hu hi.pe ho.pe) h1, sim_B (sim_inK ho.sim hi.sim)⟩
theorem at_notInK (hu : X.A.units + 1 < cLine) (hi : AE B X i ti ai) (ho : AE B X o to ao) (h1 : behindInMarks .NotIn o = false := by rfl) : AT B X (.Compare i [.NotIn] [o] pos) (tTest (tDNotIn ti to)) (aB (aInK true ai ao)) :=
  ⟨pt_cmp (pc_dnotin hu hi.pe ho.pe) h1, sim_B (sim_notInK ho.sim hi.sim)⟩
/-- d[k] = e -/
def aPutK (o i e : AE') : AS' := fun E s C => e s C fun d C1 => o s C1 fun x C2 => i s C2 fun y C3 => match x, keyOf y with
  | .ce p, some k => (match C3 p with | some (.dk es) => es.length < sizeLine ∧ E.nx s (put C3 p (.dk (putD es k d))) | _ => False)
  | _, _ => False
theorem sim_putK {K : PySem.W.Frag} (ho : SimE B K to ao) (hi : SimE B K ti ai) (he : SimE B K te a) : SimS B K (sDPut to ti te) (aPutK ao ai a) := fun D' E σ s F C R H hE hs hS h => by
  refine he σ s F C R H _ _ hs hS h fun d v F1 C1 H1 e1 S1 r1 h1 => ?_
  refine ho σ s F1 C1 R H1 _ _ (hs.mono e1) S1 h1 fun x w F2 C2 H2 e2 S2 r2 h2 => ?_
  refine hi σ s F2 C2 R H2 _ _ (hs.mono (e1.trans e2)) S2 h2 fun y u F3 C3 H3 e3 S3 r3 h3 => ?_
  split at h3
  · rename_i p ky q1
    cases r2
    split at h3
    · rename_i es q2
      obtain ⟨hl, h3⟩ := h3
      obtain ⟨hF, ob, h4, h5⟩ := S3.cell p _ q2
      cases h5 with
      | dk h6 =>
        refine ⟨p, _, rfl, ?_, hE.nx s σ F3 _ _ ((e1.trans e2).trans e3) (hs.mono ((e1.trans e2).trans e3)) (S3.mutC q2 (.dk (RepK.put ky (r1.mono (e2.trans e3)) h6))) h3⟩
        rw [keyOf_ok r3 q1]
        exact .k h4 (by rw [h6.length]; exact hl)
    · exact h3.elim
  · exact h3.elim
theorem as_putK {p2 : Pos} (hu : X.A.units + 1 < cLine) (ho : AE B X o to ao) (hi : AE B X i ti ai) (he : AE B X e te a) (hs : swapsWith e (some (.Subscript o i p2)) pos.line X.env = pure false := by rfl) : AS B X (.Assign [.Subscript o i p2] e pos) (sDPut to ti te) (aPutK ao ai a) :=
  ⟨ps_dput hu ho.pe hi.pe he.pe hs, sim_putK ho.sim hi.sim he.sim⟩
/-- {} -/
def aDict0 : AE' := fun _ C P => ∀ p, C p = none → P (.ce p) (put C p (.dk []))
theorem ae_dict0 : AE B X (.Dict [] [] pos) tDNewK aDict0 := ⟨pe_dnewK, fun σ s F C R H Q P hs hS h k p hp => k _ _ F _ _ (Ex.refl F) (hS.newC hp (.dk .nil)) (.ce p) (h p (hS.freeC hp))⟩
end
/-- {k: e, ..}, the keys written -/
def aPairs : List (Key × AE') → ASt → AH → (List (Key × D) → AH → Prop) → Prop
  | [], _, C, P => P [] C
  | (k, a) :: r, s, C, P => a s C fun d C1 => aPairs r s C1 fun es C2 => P ((k, d) :: es) C2
def mergeD (es more : List (Key × D)) : List (Key × D) := more.foldl (fun acc kv => putD acc kv.1 kv.2) es
def aDisp (l : List (Key × AE')) : AE' := fun s C P => aPairs l s C fun es C1 => es.length ≤ 15 ∧ ∀ p, C1 p = none → P (.ce p) (put C1 p (.dk (mergeD [] es)))
def SimPs (B : Bs) (K : PySem.W.Frag) (trs : List (TE × TE)) (l : List (Key × AE')) : Prop := ∀ (σ : L2.St) (s : ASt) (F : Hp) (C : AH) (R H : Hp) (Q : List (V × V) → Hp → Prop) (P : List (Key × D) → AH → Prop), Slo K F s σ → Sat B K F C R H → aPairs l s C P →
  (∀ es kvs F' C' H', Ex F F' → Sat B K F' C' R H' → RepK K F' kvs es → P es C' → Q (kvs.map fun kv => (kV kv.1, kv.2)) H') → tPairs trs σ H Q
structure APs (B : Bs) (X : Cx) (pos : Pos) (keys : List (Option Expr)) (vals : List Expr) (trs : List (TE × TE)) (l : List (Key × AE')) : Prop where
  pps : PPs X pos keys vals trs
  sim : SimPs B X.K trs l
theorem sim_pcons {K : PySem.W.Frag} {k : Key} {te : TE} {a : AE'} {trs : List (TE × TE)} {l : List (Key × AE')} (h : SimE B K te a) (g : SimPs B K trs l) : SimPs B K ((tC (kV k), te) :: trs) ((k, a) :: l) := by
  intro σ s F C R H Q P hs hS h0 kk
  refine h σ s F C R H _ _ hs hS h0 fun d v F1 C1 H1 e1 S1 r1 h1 => ?_
  refine g σ s F1 C1 R H1 _ _ (hs.mono e1) S1 h1 fun es kvs F2 C2 H2 e2 S2 r2 h2 => ?_
  exact kk ((k, d) :: es) ((k, v) :: kvs) F2 C2 H2 (e1.trans e2) S2 (.cons (r1.mono e2) r2) h2
theorem aps_nil {X : Cx} {pos : Pos} : APs B X pos [] [] [] [] := ⟨pps_nil, fun σ s F C R H Q P hs hS h k => k [] [] F C H (Ex.refl F) hS .nil h⟩
theorem aps_str {X : Cx} {pos p : Pos} {x : Str} {j} {e : Expr} {ks : List (Option Expr)} {vs : List Expr} {te : TE} {a : AE'} {trs : List (TE × TE)} {l : List (Key × AE')} (h : AE B X e te a) (g : APs B X pos ks vs trs l) : APs B X pos (some (.Constant (.str x) j p) :: ks) (e :: vs) ((tC (.str x), te) :: trs) ((.inr x, a) :: l) :=
  ⟨pps_cons pe_str h.pe g.pps, sim_pcons (k := .inr x) h.sim g.sim⟩
theorem aps_int {X : Cx} {pos p : Pos} {x : Int} {j} {e : Expr} {ks : List (Option Expr)} {vs : List Expr} {te : TE} {a : AE'} {trs : List (TE × TE)} {l : List (Key × AE')} (h : AE B X e te a) (g : APs B X pos ks vs trs l) : APs B X pos (some (.Constant (.int x) j p) :: ks) (e :: vs) ((tC (.int x), te) :: trs) ((.inl x, a) :: l) :=
  ⟨pps_cons pe_int h.pe g.pps, sim_pcons (k := .inl x) h.sim g.sim⟩
theorem RepK.merge {K : PySem.W.Frag} {F : Hp} : ∀ {more : List (Key × V)} {ms : List (Key × D)} {vs : List (Key × V)} {ds : List (Key × D)}, RepK K F more ms → RepK K F vs ds → RepK K F (mergeK vs more) (mergeD ds ms)
  | _, _, _, _, .nil, h => h
  | (k, v) :: more, (_, d) :: ms, vs, ds, .cons r t, h => by
    show RepK K F (mergeK (putK vs k v) more) (mergeD (putD ds k d) ms)
    exact RepK.merge t (RepK.put k r h)
theorem sim_disp {K : PySem.W.Frag} {trs : List (TE × TE)} {l : List (Key × AE')} (h : SimPs B K trs l) : SimE B K (tDisp trs) (aDisp l) := by
  intro σ s F C R H Q P hs hS h0 k p hp
  have hF := hS.freeF hp
  have hC := hS.freeC hp
  have hR := hS.freeR hp
  refine h σ s F C (upd R p (.dK [])) (upd H p (.dK [])) _ _ hs (hS.setR hF hC (hS.freeB hR) _) h0 fun es kvs F1 C1 H1 e1 S1 r1 h1 => ?_
  obtain ⟨h15, h1⟩ := h1
  obtain ⟨f1, c1, g1⟩ := S1.priv p _ upd_same
  refine ⟨g1, kvs, rfl, by rw [r1.length]; exact h15, ?_⟩
  have S2 := (S1.outC hR (hS.freeB hR) (.dk .nil)).mutC put_same (.dk (RepK.merge r1 .nil))
  rw [put_put] at S2
  exact k _ _ F1 _ _ e1 S2 (.ce p) (h1 p c1)
theorem ae_disp {X : Cx} {pos : Pos} {keys : List (Option Expr)} {vals : List Expr} {trs : List (TE × TE)} {l : List (Key × AE')} (h : APs B X pos keys vals trs l) (hall : keys.all (·.isSome) = true := by rfl) (hl : keys.length = vals.length := by rfl) (h0 : keys ≠ [] := by simp) (h15 : keys.length ≤ 15 := by decide) : AE B X (.Dict keys vals pos) (tDisp trs) (aDisp l) :=
  ⟨pe_disp h.pps hall hl h0 h15, sim_disp h.sim⟩
/-- a, b = x, y -/
def aPar (i j : Nat) (aa : AA') : AS' := fun E s C => aa s C fun ds C1 => match ds with
  | [d, e] => E.nx ((s.set i (some d)).set j (some e)) C1
  | _ => False
theorem sim_par {K : PySem.W.Frag} {n : Nat} {ta : TA} {aa : AA'} (i j : Nat) (h : SimA B K n ta aa) : SimS B K (tPar i j ta) (aPar i j aa) := fun D' E σ s F C R H hE hs hS h0 => by
  refine h σ s F C R H _ _ hs hS h0 fun ds vs F1 C1 H1 e1 S1 r1 hn h1 => ?_
  split at h1
  · cases r1 with
    | cons ra t =>
      cases t with
      | cons rb t =>
        cases t
        exact ⟨_, _, rfl, hE.nx _ _ F1 C1 H1 e1 (((hs.mono e1).set ra i).set rb j) S1 h1⟩
  · exact h1.elim
theorem as_par {X : Cx} {pos : Pos} (i j : Nat) {n : Nat} {x y : Str} {a b : Expr} {ta : TA} {aa : AA'} {px py pt : Pos} {kt k2 pt2} (hN : X.N.Nodup) (ha : AA B X [a, b] n ta aa) (hc : X.calm = true := by rfl) (hi : X.N[i]? = some x := by rfl) (hj : X.N[j]? = some y := by rfl) (hij : i ≠ j := by decide)
    (hx : X.env.scope.names.lookup x = some .local := by rfl) (hy : X.env.scope.names.lookup y = some .local := by rfl)
    (hw : swappedStores [.Tuple [.Name x px, .Name y py] kt pt] (.Tuple [a, b] k2 pt2) X.env = pure (some [x, y]) := by rfl)
    (hs : swapsWithSole [.Tuple [.Name x px, .Name y py] kt pt] (.Tuple [a, b] k2 pt2) pos.line X.env = pure false := by rfl) :
    AS B X (.Assign [.Tuple [.Name x px, .Name y py] kt pt] (.Tuple [a, b] k2 pt2) pos) (tPar i j ta) (aPar i j aa) :=
  ⟨ps_par hc hN hi hj hij hx hy ha.pa hw hs, sim_par i j ha.sim⟩
section
variable {nx : ASt → AH → Prop} {rt : D → AH → Prop} {bk ct : ASt → AH → Prop} {s : ASt} {C : AH} {P : D → AH → Prop} {aa : AA'} {e : AE'} {i j : Nat} {p : Addr}
def kPar (i j : Nat) (nx : ASt → AH → Prop) (s : ASt) : List D → AH → Prop := fun ds C1 => match ds with
  | [d, e] => nx ((s.set i (some d)).set j (some e)) C1
  | _ => False
theorem g_par (h : aa s C (kPar i j nx s)) : aPar i j aa ⟨nx, rt, bk, ct⟩ s C := (congrArg (aa s C) (by funext ds C1; rfl)).mpr h
theorem g_kPar {d e : D} {s' : ASt} (h0 : (s.set i (some d)).set j (some e) = s') (h : nx s' C) : kPar i j nx s [d, e] C := by
  subst h0
  exact h
theorem g_neg {z : Int} (h : P (.int (-z)) C) : aNeg (.int z) C P := h
/-! a pen: script, at, left -/
def penD (x y z : D) : Cell := .dk [(.inr "script", x), (.inr "at", y), (.inr "left", z)]
theorem g_pen0 {x y z : D} (hi : s[i]? = some (some (.ce p))) (h1 : C p = some (penD x y z)) (h : P x C) : aGetK (aVar i) (aC (.str "script")) s C P := by
  refine g_var hi ?_
  show (match (match C p with | some (.dk es) => some es | _ => none), keyOf (.str "script") with | some es, some k => (match valD es k with | some d => P d C | none => False) | _, _ => False)
  rw [h1]
  exact h
theorem g_pen1 {x y z : D} (hi : s[i]? = some (some (.ce p))) (h1 : C p = some (penD x y z)) (h : P y C) : aGetK (aVar i) (aC (.str "at")) s C P := by
  refine g_var hi ?_
  show (match (match C p with | some (.dk es) => some es | _ => none), keyOf (.str "at") with | some es, some k => (match valD es k with | some d => P d C | none => False) | _, _ => False)
  rw [h1]
  exact h
theorem g_pen2 {x y z : D} (hi : s[i]? = some (some (.ce p))) (h1 : C p = some (penD x y z)) (h : P z C) : aGetK (aVar i) (aC (.str "left")) s C P := by
  refine g_var hi ?_
  show (match (match C p with | some (.dk es) => some es | _ => none), keyOf (.str "left") with | some es, some k => (match valD es k with | some d => P d C | none => False) | _, _ => False)
  rw [h1]
  exact h
def kPut (i : Nat) (x : Str) (nx : ASt → AH → Prop) (s : ASt) : D → AH → Prop := fun d C1 => aVar i s C1 fun x' C2 => match x' with
  | .ce p => (match C2 p with | some (.dk es) => es.length < sizeLine ∧ nx s (put C2 p (.dk (putD es (.inr x) d))) | _ => False)
  | _ => False
theorem g_putK {x : Str} (h : e s C (kPut i x nx s)) : aPutK (aVar i) (aC (.str x)) e ⟨nx, rt, bk, ct⟩ s C := by
  refine (congrArg (e s C) ?_).mpr h
  funext d C1
  refine congrArg (aVar i s C1) ?_
  funext y C2
  cases y <;> rfl
theorem g_kPut1 {x y z d : D} (hi : s[i]? = some (some (.ce p))) (h1 : C p = some (penD x y z)) (h : nx s (put C p (penD x d z))) : kPut i "at" nx s d C := by
  refine g_var hi ?_
  show (match C p with | some (.dk es) => es.length < sizeLine ∧ nx s (put C p (.dk (putD es (.inr "at") d))) | _ => False)
  rw [h1]
  exact ⟨by show 3 < sizeLine; decide, h⟩
theorem g_kPut2 {x y z d : D} (hi : s[i]? = some (some (.ce p))) (h1 : C p = some (penD x y z)) (h : nx s (put C p (penD x y d))) : kPut i "left" nx s d C := by
  refine g_var hi ?_
  show (match C p with | some (.dk es) => es.length < sizeLine ∧ nx s (put C p (.dk (putD es (.inr "left") d))) | _ => False)
  rw [h1]
  exact ⟨by show 3 < sizeLine; decide, h⟩
theorem g_newPen {x y : D} (hi : s[i]? = some (some x)) (hj : s[j]? = some (some y)) (h : ∀ p, C p = none → P (.ce p) (put C p (penD x y (.int 0)))) : aDisp [(.inr "script", aVar i), (.inr "at", aVar j), (.inr "left", aC (.int 0))] s C P := by
  simp only [aDisp, aPairs]
  exact g_var hi (g_var hj (g_c ⟨by simp, h⟩))
end
end AL

namespace AL
open PySem PySem.Spec L2
variable {B : Bs}
section
variable {s : ASt} {C : AH} {P : D → AH → Prop} {a e : AE'} {l h : AO'} {PO : Option Int → AH → Prop}
/-! slices -/
theorem g_sl {r : D → Option Int → Option Int → AH → (D → AH → Prop) → Prop} (h0 : a s C fun x C1 => l s C1 fun i C2 => h s C2 fun j C3 => r x i j C3 P) : aSl r a l h s C P := h0
theorem g_noPart (h0 : PO none C) : aNoPart s C PO := h0
def kPart (PO : Option Int → AH → Prop) : D → AH → Prop := fun x C1 => match x with | .int i => PO (some i) C1 | _ => False
theorem g_part (h0 : e s C (kPart PO)) : aPart e s C PO := (congrArg (e s C) (by funext x C1; cases x <;> rfl)).mpr h0
theorem g_kPart {i : Int} (h0 : PO (some i) C) : kPart PO (.int i) C := h0
theorem cutD_take (ds : List D) (j : Nat) : cutD ds none (some (j : Int)) = ds.take j := by
  unfold cutD
  rw [HT.sIx_none, HT.sIx_nat, List.drop_zero, Nat.sub_zero]
  by_cases hj : j ≤ ds.length
  · rw [Nat.min_eq_left hj]
  · rw [Nat.min_eq_right (by omega), List.take_of_length_le (by omega), List.take_of_length_le (by omega)]
theorem cutD_drop (ds : List D) (j : Nat) : cutD ds (some (j : Int)) none = ds.drop j := by
  unfold cutD
  rw [HT.sIx_none, HT.sIx_nat]
  by_cases hj : j ≤ ds.length
  · rw [Nat.min_eq_left hj, List.take_of_length_le (by rw [List.length_drop]; omega)]
  · rw [Nat.min_eq_right (by omega), List.drop_eq_nil_of_le (Nat.le_refl _), List.drop_eq_nil_of_le (by omega)]
    simp
theorem g_cutTake {us : List D} {j : Nat} (h0 : P (.lst (us.take j)) C) : aCut (.lst us) none (some (j : Int)) C P := by
  show P (.lst (cutD us none (some (j : Int)))) C
  rw [cutD_take]; exact h0
theorem g_cutDrop {us : List D} {j : Nat} (h0 : P (.lst (us.drop j)) C) : aCut (.lst us) (some (j : Int)) none C P := by
  show P (.lst (cutD us (some (j : Int)) none)) C
  rw [cutD_drop]; exact h0
/-! extend -/
theorem g_extend {p : Addr} {us ws : List D} (h1 : C p = some (.lst us)) (h2 : us.length + ws.length ≤ sizeLine) (h0 : P .non (put C p (.lst (us ++ ws)))) : aExtend (.ce p) [.lst ws] C P := by
  show (match C p, asL C (.lst ws) with | some (.lst us), some ws => us.length + ws.length ≤ sizeLine ∧ P .non (put C p (.lst (us ++ ws))) | _, _ => False)
  rw [h1]
  exact ⟨h2, h0⟩
end
end AL

namespace AL
open PySem PySem.Spec PyProof.Rows L2
variable {B : Bs}
section
variable {X : Cx} {K : PySem.W.Frag}
/-! ### list(a text) -/
def signsV (z : Str) : List V := z.cps.toList.map fun c => V.str ⟨#[c]⟩
def kLstS (x : V) (H : Hp) (Q : VK) : Prop := ∃ z, x = .str z ∧ z.cps.size ≤ sizeLine ∧ ∀ q, H q = none → Q (.ref q) (upd H q (.lst (signsV z)))
theorem rl_listS (hc : X.calm = true) (pins : List (Addr × Obj)) (s : Shared) (σ : L2.St) (H : Hp) (x : V) (v : Value) (Q : VK) (I : Inv X pins σ H s) (r : RelV x v) (h : kLstS x H Q) :
    wpAny (model X.prog X.w) X.A (call (.type "list") [v]) (EP X pins σ Q) X.xe s := by
  obtain ⟨z, rfl, hz, q⟩ := h
  obtain ⟨t, rfl⟩ := r
  refine PySem.call_list_str (I.ok.hd hc) z t (hn := hz) fun h' tk acc c' hk e hi => ?_
  refine ⟨.ref s.heap.objs.size, upd H s.heap.objs.size (.lst (signsV z)), I.laid hk (Nat.le_refl _) ⟨by unfold signsV; rw [List.length_map, Array.length_toList]; exact hz, acc.toList, c', ?_, by rw [Array.toArray_toList]; exact e⟩, rfl, q _ (I.hok.fresh (Nat.le_refl _))⟩
  refine vals_of_idx _ _ (by unfold signsV; rw [List.length_map, Array.length_toList, Array.length_toList]; exact hi.1) fun j u hj => ?_
  obtain ⟨c, t', hc, rfl⟩ := hi.2 j u (by rw [← Array.getElem?_toList]; exact hj)
  refine ⟨.str ⟨#[c]⟩, ?_, ⟨_, rfl⟩⟩
  unfold signsV
  rw [List.getElem?_map, Array.getElem?_toList, hc]
  rfl
theorem signs_rep {F : Hp} (z : Str) : RepL K F (signsV z) (signs z) := by
  unfold signsV signs
  induction z.cps.toList with
  | nil => exact .nil
  | cons c l ih => exact .cons (.str _) ih
def aListS : ASp := fun ds C P => match ds with | [.str z] => z.cps.size ≤ sizeLine ∧ P (.lst (signs z)) C | _ => False
def aListSM : ASp := fun ds C P => match ds with | [.str z] => z.cps.size ≤ sizeLine ∧ ∀ p, C p = none → P (.ce p) (put C p (.lst (signs z))) | _ => False
theorem ac_listS (hc : X.calm = true := by rfl) : ACa B X (.type "list") (r1 kLstS) aListS := ⟨call_r1 (rl_listS hc), by
  intro vs ds F C R H Q P hS r h k
  unfold aListS at h
  split at h
  · cases r with
    | cons r1 r2 =>
      cases r2
      cases r1
      refine ⟨_, rfl, h.1, fun p hp => ?_⟩
      rename_i z
      have e := Ex.new (o := .lst (signsV z)) (hS.freeF hp)
      exact k _ _ _ C _ e (hS.newF hp _) (.lst upd_same ((signs_rep _).mono e)) h.2
  · exact h.elim⟩
theorem ac_listSM (hc : X.calm = true := by rfl) : ACa B X (.type "list") (r1 kLstS) aListSM := ⟨call_r1 (rl_listS hc), by
  intro vs ds F C R H Q P hS r h k
  unfold aListSM at h
  split at h
  · cases r with
    | cons r1 r2 =>
      cases r2
      cases r1
      refine ⟨_, rfl, h.1, fun p hp => ?_⟩
      exact k _ _ _ _ _ (Ex.refl F) (hS.newC hp (.lst (signs_rep _))) (.ce p) (h.2 p (hS.freeC hp))
  · exact h.elim⟩
/-! ### sep.join -/
def aJoin : D → ASp := fun x ds C P => match x, ds with
  | .str a, [d] => (match (asS C d).bind strsD with | some ys => (ys.map (·.length)).sum + ys.length * a.length ≤ 16777216 ∧ P (.str (Txt.join a ys)) C | none => False)
  | _, _ => False
theorem am_join (hK : X.K = K := by rfl) : AMt B X "str.join" (fun x xs H Q => ∃ a p, ∃ ys : List Str, x = .str a ∧ xs = [.ref p] ∧ (SqL K H p (ys.map V.str) ∨ SqT K H p (ys.map V.str)) ∧
    (ys.map (·.length)).sum + ys.length * a.length ≤ 16777216 ∧ Q (.str (Txt.join a ys)) H) aJoin := by
  subst hK
  exact ⟨fun pins s σ H x xs v us Q I r1 r2 h => mt_join pins s σ H x xs v us Q I r1 r2 h, by
  intro v d vs ds F C R H Q P hS r1 r2 h k
  unfold aJoin at h
  split at h
  · cases r1
    cases r2 with
    | cons r2 r3 =>
      cases r3
      split at h
      · rename_i ys e
        obtain ⟨us, e1, e2⟩ := Option.bind_eq_some_iff.mp e
        obtain ⟨a, xs, e3, h1, h2⟩ := asS_ok hS r2 e1
        have e4 := strs_ok e2
        subst e4
        have e5 := h2.ofStrs
        subst e5
        exact ⟨_, a, ys, rfl, by rw [e3], h1, h.1, k _ _ F C H (Ex.refl F) hS (.str _) h.2⟩
      · exact h.elim
  · exact h.elim⟩
/-! ### x in (a, b, ..), flat things -/
def toV : D → Option V
  | .non => some .non
  | .bl b => some (.bl b)
  | .int i => some (.int i)
  | .str x => some (.str x)
  | _ => none
def toVs : List D → Option (List V)
  | [] => some []
  | d :: ds => match toV d, toVs ds with | some v, some vs => some (v :: vs) | _, _ => none
theorem toV_ok {F : Hp} {v u : V} {d : D} (r : Rep K F v d) (h : toV d = some u) : v = u ∧ flatV u = true := by
  cases r <;> simp [toV] at h <;> subst h <;> exact ⟨rfl, rfl⟩
theorem toVs_ok {F : Hp} : ∀ {vs us : List V} {ds : List D}, RepL K F vs ds → toVs ds = some us → vs = us ∧ us.all flatV = true
  | _, _, _, .nil, h => by cases h; exact ⟨rfl, rfl⟩
  | _, us, d :: ds, .cons r t, h => by
    unfold toVs at h
    split at h
    · rename_i v vs e1 e2
      cases h
      obtain ⟨a1, a2⟩ := toV_ok r e1
      obtain ⟨b1, b2⟩ := toVs_ok t e2
      subst a1 b1
      exact ⟨rfl, by simp [a2, b2]⟩
    · cases h
def aIn (neg : Bool) : D → D → AH → (D → AH → Prop) → Prop := fun x y C P => match toV x, (asS C y).bind toVs with
  | some u, some us => P (.bl (if neg then !inV u us else inV u us)) C
  | _, _ => False
abbrev aInL := aIn false
abbrev aNinL := aIn true
theorem sim_in (neg : Bool) : SimR2 B K (rIn K neg) (aIn neg) := by
  intro v w d e F C R H Q P hS r1 r2 h k
  unfold aIn at h
  split at h
  · rename_i u us e1 e2
    obtain ⟨ds, e3, e4⟩ := Option.bind_eq_some_iff.mp e2
    obtain ⟨a, xs, rfl, h1, h2⟩ := asS_ok hS r2 e3
    obtain ⟨a1, a2⟩ := toV_ok r1 e1
    obtain ⟨b1, b2⟩ := toVs_ok h2 e4
    subst a1 b1
    exact ⟨a, xs, rfl, h1, a2, b2, k _ _ F C H (Ex.refl F) hS (.bl _) h⟩
  · exact h.elim
theorem ao_inL (hK : X.K = K := by rfl) : AOp B X (compareOp .In) (rIn K false) aInL := by subst hK; exact ⟨op_in_seq, sim_in false⟩
theorem ao_ninL (hK : X.K = K := by rfl) : AOp B X (compareOp .NotIn) (rIn K true) aNinL := by subst hK; exact ⟨op_notIn_seq, sim_in true⟩
/-! ### what is never reached -/
def aNo : AE' := fun _ _ _ => False
def aNoS : AS' := fun _ _ _ => False
theorem ae_no {e : Expr} : AE B X e (fun _ _ _ => False) aNo := ⟨⟨fun _ _ _ _ _ _ h => h.elim⟩, fun _ _ _ _ _ _ _ _ _ _ h _ => h.elim⟩
theorem as_no {st : Stmt} : AS B X st (fun _ _ _ => False) aNoS := ⟨⟨fun _ _ _ _ _ _ h => h.elim⟩, fun _ _ _ _ _ _ _ _ _ _ _ h => h.elim⟩
end
/-! ### one step each -/
section
variable {s : ASt} {C : AH} {P : D → AH → Prop}
theorem g_listSM {z : Str} (h1 : z.cps.size ≤ sizeLine) (h : ∀ p, C p = none → P (.ce p) (put C p (.lst (signs z)))) : aListSM [.str z] C P := ⟨h1, h⟩
theorem g_listS {z : Str} (h1 : z.cps.size ≤ sizeLine) (h : P (.lst (signs z)) C) : aListS [.str z] C P := ⟨h1, h⟩
theorem g_joinL {a : Str} {ys : List Str} (h1 : (ys.map (·.length)).sum + ys.length * a.length ≤ 16777216) (h : P (.str (Txt.join a ys)) C) : aJoin (.str a) [.lst (ys.map D.str)] C P := by
  show (match strsD (ys.map D.str) with | some ys => _ | none => False)
  rw [strs_map]
  exact ⟨h1, h⟩
theorem g_joinT {a : Str} {ys : List Str} (h1 : (ys.map (·.length)).sum + ys.length * a.length ≤ 16777216) (h : P (.str (Txt.join a ys)) C) : aJoin (.str a) [.tup (ys.map D.str)] C P := by
  show (match strsD (ys.map D.str) with | some ys => _ | none => False)
  rw [strs_map]
  exact ⟨h1, h⟩
theorem g_in {neg : Bool} {x : D} {u : V} {ds : List D} {us : List V} (h1 : toV x = some u) (h2 : toVs ds = some us) (h : P (.bl (if neg then !inV u us else inV u us)) C) : aIn neg x (.tup ds) C P := by
  show (match toV x, toVs ds with | some u, some us => P (.bl (if neg then !inV u us else inV u us)) C | _, _ => False)
  rw [h1, h2]
  exact h
theorem g_popAt {p : Addr} {us : List D} {i : Nat} {d : D} (h1 : C p = some (.lst us)) (hi : i < 2 ^ 63) (h2 : us[i]? = some d) (h : P d (put C p (.lst (us.eraseIdx i)))) : aPopAt (.ce p) [.int (i : Int)] C P := by
  show (match C p with | some (.lst us) => -(2 ^ 63) ≤ (i : Int) ∧ (i : Int) < 2 ^ 63 ∧ (match seqIndex? (i : Int) us.length with | some k => (match us[k]? with | some d => P d (put C p (.lst (us.eraseIdx k))) | none => False) | none => False) | _ => False)
  rw [h1]
  refine ⟨by omega, by omega, ?_⟩
  have hl := (List.getElem?_eq_some_iff.mp h2).1
  have e : seqIndex? (i : Int) us.length = some i := by
    unfold seqIndex?
    simp
    omega
  rw [e]
  show (match us[i]? with | some d => P d (put C p (.lst (us.eraseIdx i))) | none => False)
  rw [h2]
  exact h
end
end AL
namespace AL
open PySem PySem.Spec L2
variable {B : Bs}
theorem ass_no {X : Cx} {st : List Stmt} : ASs B X st (fun _ _ _ => False) aNoS := ⟨⟨fun _ _ _ _ _ _ h => h.elim⟩, fun _ _ _ _ _ _ _ _ _ _ _ h => h.elim⟩
end AL

namespace AL
open PySem PySem.Spec PyProof.Rows L2
variable {B : Bs}
/-! ### texts of valid signs -/
def okS (z : Str) : Prop := ∀ c ∈ z.cps.toList, c < 0x110000
def One (z : Str) : Prop := ∃ c : Nat, z = ⟨#[c]⟩ ∧ c < 0x110000
abbrev strsL (ys : List Str) : List D := ys.map D.str
def chars (z : Str) : List Str := z.cps.toList.map fun c => ⟨#[c]⟩
theorem len_toList (z : Str) : z.cps.toList.length = z.length := Array.length_toList
theorem One.len {z : Str} (h : One z) : z.length = 1 := by obtain ⟨c, rfl, _⟩ := h; rfl
theorem One.ok {z : Str} (h : One z) : okS z := by
  obtain ⟨c, rfl, hc⟩ := h
  intro d hd
  have : d = c := by simpa using hd
  rw [this]; exact hc
theorem signs_chars (z : Str) : signs z = strsL (chars z) := by
  unfold signs strsL chars
  rw [List.map_map]
  rfl
theorem chars_len (z : Str) : (chars z).length = z.length := by unfold chars; rw [List.length_map, len_toList]
theorem chars_one {z : Str} (h : okS z) : ∀ y ∈ chars z, One y := by
  intro y hy
  obtain ⟨c, hc, rfl⟩ := List.mem_map.mp hy
  exact ⟨c, rfl, h c hc⟩
theorem joinL_nil : ∀ ps : List (List Nat), TL.joinL [] ps = ps.flatten
  | [] => rfl
  | [p] => by simp [TL.joinL]
  | p :: q :: r => by
    show p ++ ([] ++ TL.joinL [] (q :: r)) = _
    rw [joinL_nil (q :: r), List.nil_append]
    simp
theorem join_toList (ys : List Str) : (Txt.join "" ys).cps.toList = (ys.map fun y => y.cps.toList).flatten := by
  rw [TL.join_eq]
  have h := TL.tl_join "" ys
  have e : TL.tl "" = [] := by decide +kernel
  rw [e, joinL_nil] at h
  exact h
theorem join_len (ys : List Str) : (Txt.join "" ys).length = (ys.map (·.length)).sum := by
  rw [← len_toList, join_toList, List.length_flatten, List.map_map]
  congr 1
theorem join_ok {ys : List Str} (h : ∀ y ∈ ys, okS y) : okS (Txt.join "" ys) := by
  intro c hc
  rw [join_toList] at hc
  obtain ⟨l, hl, hc⟩ := List.mem_flatten.mp hc
  obtain ⟨y, hy, rfl⟩ := List.mem_map.mp hl
  exact h y hy c hc
theorem ones_len {ys : List Str} (h : ∀ y ∈ ys, One y) : (ys.map (·.length)).sum = ys.length := by
  induction ys with
  | nil => rfl
  | cons y ys ih =>
    rw [List.map_cons, List.sum_cons, ih fun z hz => h z (List.mem_cons_of_mem _ hz), (h y (List.mem_cons_self ..)).len, List.length_cons]
    omega
theorem erase_map (ys : List Str) : ∀ i, (strsL ys).eraseIdx i = strsL (ys.eraseIdx i) := by
  induction ys with
  | nil => intro i; rfl
  | cons y ys ih =>
    intro i
    cases i with
    | zero => rfl
    | succ i =>
      show D.str y :: (strsL ys).eraseIdx i = D.str y :: strsL (ys.eraseIdx i)
      rw [ih]
section
variable {C : AH} {P : D → AH → Prop}
theorem len_empty : ("" : Str).length = 0 := by decide +kernel
theorem g_joinE {ys : List Str} (h1 : (ys.map (·.length)).sum ≤ 16777216) (h : P (.str (Txt.join "" ys)) C) : aJoin (.str "") [.lst (strsL ys)] C P := g_joinL (by rw [len_empty]; omega) h
theorem g_joinET {ys : List Str} (h1 : (ys.map (·.length)).sum ≤ 16777216) (h : P (.str (Txt.join "" ys)) C) : aJoin (.str "") [.tup (strsL ys)] C P := g_joinT (by rw [len_empty]; omega) h
theorem g_ixS {z : Str} {i : Nat} (hz : okS z) (hl : z.length ≤ sizeLine) (hi : i < z.length) (k : ∀ y, One y → P (.str y) C) : aIx (.str z) (.int (i : Int)) C P := by
  have hi' : i < z.cps.toList.length := by rw [len_toList]; exact hi
  show z.length ≤ sizeLine ∧ (match atI z.cps.toList (i : Int) with | some c => P (.str ⟨#[c]⟩) C | none => False)
  refine ⟨hl, ?_⟩
  rw [atI_nat' (List.getElem?_eq_getElem hi')]
  exact k _ ⟨_, rfl, hz _ (List.getElem_mem hi')⟩
theorem g_popS {p : Addr} {ys : List Str} {i : Nat} (h1 : C p = some (.lst (strsL ys))) (hi : i < ys.length) (h64 : ys.length < 2 ^ 62) (h : P (.str ys[i]) (put C p (.lst (strsL (ys.eraseIdx i))))) : aPopAt (.ce p) [.int (i : Int)] C P := by
  refine g_popAt (d := .str ys[i]) h1 (by omega) ?_ ?_
  · unfold strsL
    rw [List.getElem?_map, List.getElem?_eq_getElem hi]
    rfl
  · rw [erase_map]; exact h
end
end AL

namespace AL
open PySem PySem.Spec PyProof.Rows L2
variable {B : Bs}
section
variable {X : Cx} {K : PySem.W.Frag}
/-! ### lists of ints in order -/
theorem holdAll_ints {h : Heap} : ∀ {vs : List Value} {ns : List Int}, Vals (ns.map V.int) vs → PySem.W.HoldAll h vs ns
  | _, [], .nil => ⟨_, .nil⟩
  | _, n :: ns, r => by
    rw [List.map_cons] at r
    cases r with
    | cons r1 r2 =>
      obtain ⟨t, rfl⟩ := r1
      obtain ⟨as, ra⟩ := holdAll_ints r2
      exact ⟨_, .cons (.int n t) ra⟩
def rLtLi (K : PySem.W.Frag) : R2 := fun x y H Q => ∃ a b ns ms, x = .ref a ∧ y = .ref b ∧ SqL K H a (ns.map V.int) ∧ SqL K H b (ms.map V.int) ∧ Q (.bl (PySem.W.listLt ns ms)) H
theorem op_ltLi (hu : X.A.units + 64 < cLine) : OpR X (compareOp .Lt) (rLtLi X.K) := by
  intro pins s σ H x y v u Q I rx ry h
  obtain ⟨a, b, ns, ms, rfl, rfl, ha, hb, q⟩ := h
  cases rx
  cases ry
  obtain ⟨its, r1, p1, _⟩ := I.list ha
  obtain ⟨its2, r2, p2, _⟩ := I.list hb
  refine PySem.W.lt_datum (α := List Int) (PySem.W.holds_list p1.isList (by rw [List.toList_toArray]; exact holdAll_ints r1)) (PySem.W.holds_list p2.isList (by rw [List.toList_toArray]; exact holdAll_ints r2)) ?_ ⟨.bl (PySem.W.listLt ns ms), H, I, rfl, q⟩
  show X.A.units + 1 < cLine
  omega
def aLtL : D → D → AH → (D → AH → Prop) → Prop := fun x y C P => match (asLr C x).bind intsD, (asLr C y).bind intsD with
  | some ns, some ms => P (.bl (PySem.W.listLt ns ms)) C
  | _, _ => False
theorem sim_ltL : SimR2 B K (rLtLi K) aLtL := by
  intro v w d e F C R H Q P hS r1 r2 h k
  unfold aLtL at h
  split at h
  · rename_i ns ms e1 e2
    obtain ⟨us, f1, f2⟩ := Option.bind_eq_some_iff.mp e1
    obtain ⟨ws, g1, g2⟩ := Option.bind_eq_some_iff.mp e2
    obtain ⟨a, xs, rfl, h1, h2⟩ := asLr_ok hS r1 f1
    obtain ⟨b, ys, rfl, h3, h4⟩ := asLr_ok hS r2 g1
    have i1 := ints_ok f2
    have i2 := ints_ok g2
    subst i1 i2
    have j1 := h2.ofInts
    have j2 := h4.ofInts
    subst j1 j2
    exact ⟨a, b, ns, ms, rfl, rfl, h1, h3, k _ _ F C H (Ex.refl F) hS (.bl _) h⟩
  · exact h.elim
theorem ao_ltL (hu : X.A.units + 64 < cLine) (hK : X.K = K := by rfl) : AOp B X (compareOp .Lt) (rLtLi K) aLtL := by subst hK; exact ⟨op_ltLi hu, sim_ltL⟩
/-! ### s[::-1] of a text -/
def revS (z : Str) : Str := ⟨((PySem.Builtin.Str.strSliceIndices none none (-1) z.length).filterMap (z.cps[·]?)).toArray⟩
theorem revS_toList (z : Str) : (revS z).cps.toList = z.cps.toList.reverse := by
  unfold revS
  rw [List.toList_toArray, PyProof.Rows.picked_rev, PyProof.Rows.filterMap_get]
  · rw [List.map_map]
    refine List.ext_getElem (by simp [Str.length]) fun i h1 h2 => ?_
    have hi : i < z.cps.size := by simpa [Str.length] using h1
    simp only [List.getElem_map, List.getElem_range, Function.comp, List.getElem_reverse, Array.getElem_toList, Array.length_toList]
    have hj : z.length - 1 - i < z.cps.size := by show z.cps.size - 1 - i < _; omega
    rw [Array.getD, dif_pos hj]
    rfl
  · intro i hi
    obtain ⟨k, hk, rfl⟩ := List.mem_map.mp hi
    have hk' : k < z.length := List.mem_range.mp hk
    show z.length - 1 - k < z.length
    omega
theorem revS_len (z : Str) : (revS z).length = z.length := by rw [← len_toList, revS_toList, List.length_reverse, len_toList]
def tRevS (te : TE) : TE := fun σ H Q => te σ H fun x H1 => ∃ z, x = .str z ∧ z.length ≤ sizeLine ∧ Q (.str (revS z)) H1
theorem pe_revS {e : Expr} {te : TE} {k : Nat} {p1 p2 p3 pos : Pos} (he : PE X e te) : PE X (.Subscript e (.Slice none none (some (.UnaryOp .USub (.Constant (.int 1) k p1) p2)) p3) pos) (tRevS te) := by
  refine ⟨fun pins s σ H Q I h => ?_⟩
  refine Subscript_ (thn (he.run pins s σ H _ I h) fun v s1 ⟨x, H1, I1, r1, q1⟩ => ?_)
  obtain ⟨z, ex, hz, q⟩ := q1
  subst ex
  obtain ⟨t, rfl⟩ := r1
  have hst : PO X (some (.UnaryOp .USub (.Constant (.int 1) k p1) p2)) (tPart (tUn (rU fun i => .int (-i)) (tC (.int 1)))) := po_some (pe_un un_neg pe_int)
  refine wpAny_Slice (thn (po_none.run pins s1 σ H1 (fun o H2 => o = none ∧ H2 = H1) I1 ⟨rfl, rfl⟩) fun vl s2 ⟨l, H2, I2, pl, el, e2⟩ => ?_)
  subst el e2
  refine thn (po_none.run pins s2 σ H2 (fun o H3 => o = none ∧ H3 = H2) I2 ⟨rfl, rfl⟩) fun vu s3 ⟨u, H3, I3, pu, eu, e3⟩ => ?_
  subst eu e3
  refine thn (hst.run pins s3 σ H3 (fun o H4 => o = some (-1) ∧ H4 = H3) I3 ⟨1, rfl, -1, rfl, rfl, rfl⟩) fun vs s4 ⟨o, H4, I4, ps, eo, e4⟩ => ?_
  subst eo e4
  have I5 : Inv X pins σ H4 { s4 with heap := s4.heap.push { cls := .type "slice", data := .fields #[vl, vu, vs] } } := I4.kept (t' := s4.toks) fun b ob q => Heap.get?_push_of_some _ q
  obtain ⟨l, rfl, e1⟩ := IsPart.raw pl
  obtain ⟨u, rfl, e2⟩ := IsPart.raw pu
  obtain ⟨w, rfl, e3⟩ := IsPart.raw ps
  show wpAny (model X.prog X.w) X.A (subscriptTail e (.Slice none none (some (.UnaryOp .USub (.Constant (.int 1) k p1) p2)) p3) (.str z t) (.ref s4.heap.objs.size)) (EP X pins σ Q) X.xe { s4 with heap := s4.heap.push { cls := .type "slice", data := .fields #[partValue l, partValue u, partValue w] } }
  refine tail_any (ops := [.str z t, .ref s4.heap.objs.size]) (typeIs_str _ _ _) (PySem.F.slot_str_getitem.lookup) ?_ (by with_unfolding_all rfl)
  refine wpAny_getItem_str_slice (l := l) (u := u) (st := w) ⟨_, Heap.get?_push_size _ rfl, rfl, rfl⟩ ?_ ?_
  · rw [e3]; rfl
  · have hl : (revS z).length ≤ sizeLine := by rw [revS_len]; exact hz
    unfold sliceMade slicePicked
    rw [e1, e2, e3]
    rw [if_neg (by simp)]
    exact ⟨hl, .str _, H4, I5.tok _, ⟨_, rfl⟩, q⟩
def aRevS : D → AH → (D → AH → Prop) → Prop := fun x C P => match x with | .str z => z.length ≤ sizeLine ∧ P (.str (revS z)) C | _ => False
theorem ae_revS {pos : Pos} {e : Expr} {te : TE} {a : AE'} {k : Nat} {p1 p2 p3 : Pos} (he : AE B X e te a) : AE B X (.Subscript e (.Slice none none (some (.UnaryOp .USub (.Constant (.int 1) k p1) p2)) p3) pos) (tRevS te) (aUn aRevS a) :=
  ⟨pe_revS he.pe, by
  intro σ s F C R H Q P hs hS h0 k
  refine he.sim σ s F C R H _ _ hs hS h0 fun x v F1 C1 H1 e1 S1 r1 h1 => ?_
  unfold aRevS at h1
  split at h1
  · cases r1
    exact ⟨_, rfl, h1.1, k _ _ F1 C1 H1 e1 S1 (.str _) h1.2⟩
  · exact h1.elim⟩
end
end AL
namespace HT
open PySem PySem.Spec PyProof.Rows L2
section
variable {prog : Program} {w : World} {A : Around} {E : Value → Shared → Prop} {s : Shared}
theorem sliceApplied_rev {sl : Addr} {vl vu vs : Value} {n : Nat} {Q : Int × Int × Nat → Shared → Prop} (hs : s.heap.IsSliceOf sl vl vu vs) (pl : IsPart vl none) (pu : IsPart vu none) (ps : IsPart vs (some (-1)))
    (h : Q ((n : Int) - 1, -1, n) s) : wpAny (model prog w) A (Builtin.Slice.sliceApplied (.ref sl) (pure (n : Int))) Q E s := by
  obtain ⟨os, hos, hcs, hds⟩ := id hs
  unfold Builtin.Slice.sliceApplied Builtin.Slice.sliceFields
  refine wpAny_bind (wpAny_bind (wpAny_field hos hds (x := vl) rfl (wpAny_bind (wpAny_field hos hds (x := vu) rfl (wpAny_bind (wpAny_field hos hds (x := vs) rfl (wpAny_pure ?_)))))))
  refine wpAny_bind (slicePart_ ps ?_)
  show wpAny _ _ (if ((-1 : Int) == 0) = true then _ else _) _ _ s
  rw [if_neg (by decide)]
  refine wpAny_bind (slicePart_ pl (wpAny_bind (slicePart_ pu (wpAny_bind (wpAny_pure ?_)))))
  show wpAny _ _ (match Builtin.Slice.sliceAdjust none none (-1) (n : Int) with | (lo, hi) => pure (lo, (-1 : Int), Builtin.Slice.slicePlaces lo hi (-1))) _ _ s
  have e : Builtin.Slice.sliceAdjust none none (-1) (n : Int) = ((n : Int) - 1, -1) := by
    unfold Builtin.Slice.sliceAdjust
    simp
  have e2 : Builtin.Slice.slicePlaces ((n : Int) - 1) (-1) (-1) = n := by
    unfold Builtin.Slice.slicePlaces
    simp
    omega
  rw [e]
  show wpAny _ _ (pure ((n : Int) - 1, (-1 : Int), Builtin.Slice.slicePlaces ((n : Int) - 1) (-1) (-1))) _ _ s
  rw [e2]
  exact wpAny_pure h
theorem fmap_some {α β : Type} {f : α → Option β} {g : α → β} : ∀ {l : List α}, (∀ m ∈ l, f m = some (g m)) → l.filterMap f = l.map g
  | [], _ => rfl
  | m :: l, h => by
    rw [List.filterMap_cons, h m (List.mem_cons_self ..), List.map_cons, fmap_some fun k hk => h k (List.mem_cons_of_mem _ hk)]
theorem pick_rev (xs : Array Value) : ((List.range xs.size).filterMap fun (m : Nat) => xs[(((xs.size : Nat) : Int) - 1 + (m : Int) * (-1)).toNat]?).toArray = xs.toList.reverse.toArray := by
  congr 1
  have e : ∀ m ∈ List.range xs.size, xs[(((xs.size : Nat) : Int) - 1 + (m : Int) * (-1)).toNat]? = some (xs.toList.reverse.getD m .none) := by
    intro m hm
    have hm' : m < xs.size := List.mem_range.mp hm
    have e1 : (((xs.size : Nat) : Int) - 1 + (m : Int) * (-1)).toNat = xs.size - 1 - m := by omega
    have h2 : xs.size - 1 - m < xs.size := by omega
    have h3 : m < xs.toList.reverse.length := by rw [List.length_reverse, Array.length_toList]; exact hm'
    rw [e1, Array.getElem?_eq_getElem h2, List.getD, List.getElem?_eq_getElem h3]
    simp
  rw [fmap_some e]
  refine List.ext_getElem (by simp) fun i h1 h2 => ?_
  simp [List.getD, List.getElem?_eq_getElem h2]
theorem getItem_tuple_rev {t sl : Addr} {items : Array Value} {vl vu vs : Value} {Q : Value → Shared → Prop} (ht : IsTup s.heap t items) (hs : s.heap.IsSliceOf sl vl vu vs) (pl : IsPart vl none) (pu : IsPart vu none) (ps : IsPart vs (some (-1)))
    (h : Q (.ref s.heap.objs.size) { s with heap := s.heap.push { cls := .type "tuple", data := .seq items.toList.reverse.toArray } }) (hsz : items.size ≤ sizeLine) : wpAny (model prog w) A (getItem (.ref t) (.ref sl)) Q E s := by
  have htake : sizeOk (.seq items.toList.reverse.toArray) := by
    show items.toList.reverse.toArray.size ≤ sizeLine
    rw [List.size_toArray, List.length_reverse, Array.length_toList]
    exact hsz
  obtain ⟨os, hos, hcs, hds⟩ := id hs
  have hTs : s.TypeIs (.ref sl) "slice" := ⟨os, hos, hcs⟩
  unfold getItem
  try with_reducible refine wpAny_holding ?_
  first | refine wpAny_bind (wpAny_pure ?_) | skip
  refine wpAny_bind (wpAny_sequenceKey ht.typeIs (by decide) ?_)
  refine wpAny_bind (wpAny_callSpecial?_slot (name := Str.ofString "__getitem__") ht.typeIs PyProof.Rows.slot_tuple_getitem
    (wpAny_call_entry PyProof.Rows.slot_tuple_getitem ht.typeIs entry_tuple_getitem ?_ (args_tuple_getitem _ _)))
  show wpAny _ _ (Builtin.Tuple.tupleItemsOf (.ref t) >>= _) _ _ s
  refine wpAny_bind (tupleItemsOf_ ht ?_)
  refine wpAny_bind (wpAny_typeOf hTs ?_)
  rw [if_pos (by decide)]
  refine wpAny_bind (sliceApplied_rev hs pl pu ps ?_)
  have hno : ¬ ((((items.size : Nat) : Int) - 1 == 0 && (-1 : Int) == 1 && items.size == items.size) = true) := by
    intro q
    rw [Bool.and_eq_true, Bool.and_eq_true] at q
    exact absurd q.1.2 (by decide)
  show wpAny _ _ (if (((items.size : Nat) : Int) - 1 == 0 && (-1 : Int) == 1 && items.size == items.size) = true then _ else _) _ _ s
  rw [if_neg hno, pick_rev]
  first
    | exact wpAny_bind (m := Builtin.Tuple.tupleExact _) (wpAny_newObj_type (wpAny_pure ⟨_, rfl, wpAny_pure h⟩) htake)
    | exact wpAny_bind (m := Builtin.Tuple.tupleExact _) (wpAny_newObj_type (wpAny_bind (wpAny_pure (wpAny_pure ⟨_, rfl, wpAny_pure h⟩))) htake)
    | exact wpAny_bind (wpAny_bind (m := Builtin.Tuple.tupleExact _) (wpAny_newObj_type (wpAny_pure (wpAny_pure ⟨_, rfl, wpAny_pure h⟩)) htake))
    | exact wpAny_bind (wpAny_bind (m := Builtin.Tuple.tupleExact _) (wpAny_newObj_type (wpAny_pure ⟨_, rfl, wpAny_pure h⟩) htake))
end
end HT
namespace AL
open PySem PySem.Spec PyProof.Rows L2
variable {B : Bs}
section
variable {X : Cx} {K : PySem.W.Frag}
/-- t[::-1] of a tuple -/
def tRevT (K : PySem.W.Frag) (te : TE) : TE := fun σ H Q => te σ H fun x H1 => ∃ a xs, x = .ref a ∧ SqT K H1 a xs ∧ ∀ p, H1 p = none → Q (.ref p) (upd H1 p (.tup xs.reverse))
theorem pe_revT {e : Expr} {te : TE} {k : Nat} {p1 p2 p3 pos : Pos} (he : PE X e te) : PE X (.Subscript e (.Slice none none (some (.UnaryOp .USub (.Constant (.int 1) k p1) p2)) p3) pos) (tRevT X.K te) := by
  refine ⟨fun pins s σ H Q I h => ?_⟩
  refine Subscript_ (thn (he.run pins s σ H _ I h) fun v s1 ⟨x, H1, I1, r1, q1⟩ => ?_)
  obtain ⟨a, xs, ex, hx, q⟩ := q1
  subst ex
  cases r1
  have hst : PO X (some (.UnaryOp .USub (.Constant (.int 1) k p1) p2)) (tPart (tUn (rU fun i => .int (-i)) (tC (.int 1)))) := po_some (pe_un un_neg pe_int)
  refine wpAny_Slice (thn (po_none.run pins s1 σ H1 (fun o H2 => o = none ∧ H2 = H1) I1 ⟨rfl, rfl⟩) fun vl s2 ⟨l, H2, I2, pl, el, e2⟩ => ?_)
  subst el e2
  refine thn (po_none.run pins s2 σ H2 (fun o H3 => o = none ∧ H3 = H2) I2 ⟨rfl, rfl⟩) fun vu s3 ⟨u, H3, I3, pu, eu, e3⟩ => ?_
  subst eu e3
  refine thn (hst.run pins s3 σ H3 (fun o H4 => o = some (-1) ∧ H4 = H3) I3 ⟨1, rfl, -1, rfl, rfl, rfl⟩) fun vs s4 ⟨o, H4, I4, ps, eo, e4⟩ => ?_
  subst eo e4
  have I5 : Inv X pins σ H4 { s4 with heap := s4.heap.push { cls := .type "slice", data := .fields #[vl, vu, vs] } } := I4.kept (t' := s4.toks) fun b ob q => Heap.get?_push_of_some _ q
  obtain ⟨its, r, ht, hz⟩ := I5.tuple hx
  have hlen := r.length
  show wpAny (model X.prog X.w) X.A (subscriptTail e (.Slice none none (some (.UnaryOp .USub (.Constant (.int 1) k p1) p2)) p3) (.ref a) (.ref s4.heap.objs.size)) (EP X pins σ Q) X.xe { s4 with heap := s4.heap.push { cls := .type "slice", data := .fields #[vl, vu, vs] } }
  refine tail_any (ops := [.ref a, .ref s4.heap.objs.size]) ht.typeIs (PyProof.Rows.slot_tuple_getitem.lookup) ?_ (by with_unfolding_all rfl)
  refine HT.getItem_tuple_rev ht (Heap.IsSliceOf.new _ vl vu vs) pl pu ps ?_ (by rw [List.size_toArray]; omega)
  refine ⟨.ref _, _, I5.laid (t' := s4.toks) (o := .tup xs.reverse) (fun b ob q => Heap.get?_push_of_some _ q) (Nat.le_refl _) ?_, rfl, q _ (I5.hok.fresh (Nat.le_refl _))⟩
  exact ⟨by rw [List.length_reverse]; exact hz, its.reverse, r.reverse, IsTup.new _ _⟩
def aRevT : D → AH → (D → AH → Prop) → Prop := fun x C P => match asT x with | some ds => P (.tup ds.reverse) C | none => False
theorem ae_revT {pos : Pos} {e : Expr} {te : TE} {a : AE'} {k : Nat} {p1 p2 p3 : Pos} (he : AE B X e te a) (hK : X.K = K := by rfl) : AE B X (.Subscript e (.Slice none none (some (.UnaryOp .USub (.Constant (.int 1) k p1) p2)) p3) pos) (tRevT K te) (aUn aRevT a) := by
  subst hK
  exact ⟨pe_revT he.pe, by
  intro σ s F C R H Q P hs hS h0 k
  refine he.sim σ s F C R H _ _ hs hS h0 fun x v F1 C1 H1 e1 S1 r1 h1 => ?_
  unfold aRevT at h1
  split at h1
  · rename_i ds q
    obtain ⟨a, xs, e2, h2, h3⟩ := asT_ok S1 r1 q
    refine ⟨a, xs, e2, SqT.of h2, fun p hp => ?_⟩
    have e := Ex.new (o := .tup xs.reverse) (S1.freeF hp)
    exact k _ _ _ C1 _ (e1.trans e) (S1.newF hp _) (.tup upd_same (h3.reverse.mono e)) h1
  · exact h1.elim⟩
/-! one step each -/
variable {C : AH} {P : D → AH → Prop}
theorem g_revS {z : Str} (h1 : z.length ≤ sizeLine) (h : P (.str (revS z)) C) : aRevS (.str z) C P := ⟨h1, h⟩
theorem g_revT {ds : List D} (h : P (.tup ds.reverse) C) : aRevT (.tup ds) C P := h
theorem g_ltL {xs ys : List D} {ns ms : List Int} (h1 : intsD xs = some ns) (h2 : intsD ys = some ms) (h : P (.bl (PySem.W.listLt ns ms)) C) : aLtL (.lst xs) (.lst ys) C P := by
  show (match (some xs).bind intsD, (some ys).bind intsD with | some ns, some ms => P (.bl (PySem.W.listLt ns ms)) C | _, _ => False)
  rw [Option.bind_some, Option.bind_some, h1, h2]
  exact h
/-! a.index(b) of texts -/
def aSindex : D → ASp := fun x ds C P => match x, ds with
  | .str a, [.str b] => (match Builtin.Str.occurrences a b 0 a.length 1 with | i :: _ => P (.int (i : Nat)) C | [] => False)
  | _, _ => False
theorem am_sindex : AMt B X "str.index" (fun x xs H Q => ∃ a b i rest, x = .str a ∧ xs = [.str b] ∧ Builtin.Str.occurrences a b 0 a.length 1 = i :: rest ∧ Q (.int (i : Nat)) H) aSindex := ⟨fun pins s σ H x xs v us Q I r1 r2 h => mt_sindex pins s σ H x xs v us Q I r1 r2 h, by
  intro v d vs ds F C R H Q P hS r1 r2 h k
  unfold aSindex at h
  split at h
  · cases r1
    cases r2 with
    | cons r2 r3 =>
      cases r3
      cases r2
      split at h
      · rename_i i rest e
        exact ⟨_, _, i, rest, rfl, rfl, e, k _ _ F C H (Ex.refl F) hS (.int _) h⟩
      · exact h.elim
  · exact h.elim⟩
end
end AL

namespace AL
open PySem PySem.Spec PyProof.Rows L2
variable {B : Bs}
section
variable {X : Cx} {K : PySem.W.Frag}
/-! ### xs.reverse(), xs.clear() -/
def aReverse : D → ASp := fun x ds C P => match x, ds with
  | .ce p, [] => (match C p with | some (.lst us) => P .non (put C p (.lst us.reverse)) | _ => False)
  | _, _ => False
def aClear : D → ASp := fun x ds C P => match x, ds with
  | .ce p, [] => (match C p with | some (.lst _) => P .non (put C p (.lst [])) | _ => False)
  | _, _ => False
theorem am_reverse : AMt B X "list.reverse" rReverse aReverse := ⟨fun pins s σ H x xs v us Q I r1 r2 h => mt_reverse pins s σ H x xs v us Q I r1 r2 h, by
  intro v d vs ds F C R H Q P hS r1 r2 h k
  unfold aReverse at h
  split at h
  · cases r1
    cases r2
    split at h
    · rename_i us e
      obtain ⟨xs, h1, h2⟩ := cellL hS e
      exact ⟨_, xs, rfl, rfl, h1, k _ _ F _ _ (Ex.refl F) (hS.mutC e (.lst h2.reverse)) .non h⟩
    · exact h.elim
  · exact h.elim⟩
theorem am_clear : AMt B X "list.clear" rClear aClear := ⟨fun pins s σ H x xs v us Q I r1 r2 h => mt_clear pins s σ H x xs v us Q I r1 r2 h, by
  intro v d vs ds F C R H Q P hS r1 r2 h k
  unfold aClear at h
  split at h
  · cases r1
    cases r2
    split at h
    · rename_i us e
      obtain ⟨xs, h1, h2⟩ := cellL hS e
      exact ⟨_, xs, rfl, rfl, h1, k _ _ F _ _ (Ex.refl F) (hS.mutC e (.lst .nil)) .non h⟩
    · exact h.elim
  · exact h.elim⟩
theorem g_reverse {C : AH} {P : D → AH → Prop} {p : Addr} {us : List D} (h1 : C p = some (.lst us)) (h : P .non (put C p (.lst us.reverse))) : aReverse (.ce p) [] C P := by
  show (match C p with | some (.lst us) => P .non (put C p (.lst us.reverse)) | _ => False)
  rw [h1]; exact h
theorem g_clear {C : AH} {P : D → AH → Prop} {p : Addr} {us : List D} (h1 : C p = some (.lst us)) (h : P .non (put C p (.lst []))) : aClear (.ce p) [] C P := by
  show (match C p with | some (.lst us) => P .non (put C p (.lst [])) | _ => False)
  rw [h1]; exact h
end
end AL

namespace AL
open PySem PySem.Spec PyProof.Rows L2
variable {B : Bs}
section
variable {X : Cx} {pos : Pos} {K : PySem.W.Frag}
/-! ### isinstance(e, (T1, T2)) -/
def aIsi2 (T U : String) (a : AE') : AE' := fun s C P => a s C fun x C1 => match kindOf C1 x with | some t => P (.bl (isT T t || isT U t)) C1 | none => False
theorem ae_isi2 {e : Expr} {te : TE} {a : AE'} {T U : Str} {Tn Un : String} {p p2 p3 p4 : Pos} {k4 : Nat} (h : AE B X e te a) (hm : X.mg "isinstance" = none) (hmT : X.mg T = none) (hmU : X.mg U = none) (hv : bootBuiltins T = some (.type Tn)) (hvU : bootBuiltins U = some (.type Un)) (hT : Tn ∈ ["bool", "int", "str", "list", "tuple", "dict"] := by decide) (hU : Un ∈ ["bool", "int", "str", "list", "tuple", "dict"] := by decide)
    (hg : Gl X "isinstance" := by rfl) (hgT : Gl X T := by rfl) (hgU : Gl X U := by rfl) (hb : bootBuiltins "isinstance" = some (.builtin "isinstance") := by decide +kernel) (hnT : T ≠ "__name__" := by decide) (hdT : (T == ("__debug__" : Str)) = false := by decide) (hnU : U ≠ "__name__" := by decide) (hdU : (U == ("__debug__" : Str)) = false := by decide)
    (he : starEach [e, .Tuple [.Name T p2, .Name U p3] k4 p4] X.env = (false, eval e X.env) :: starEach [.Tuple [.Name T p2, .Name U p3] k4 p4] X.env := by rfl) (hpl : (backTo pos (starEach [.Tuple [.Name T p2, .Name U p3] k4 p4] X.env)).any (·.1) = false := by rfl) (h2 : starEach [.Tuple [.Name T p2, .Name U p3] k4 p4] X.env = (false, eval (.Tuple [.Name T p2, .Name U p3] k4 p4) X.env) :: starEach [] X.env := by rfl)
    (h3 : starEach [.Name T p2, .Name U p3] X.env = (false, eval (.Name T p2) X.env) :: starEach [.Name U p3] X.env := by rfl) (h4 : starEach [.Name U p3] X.env = (false, eval (.Name U p3) X.env) :: starEach [] X.env := by rfl) (hK : X.K = K := by rfl) :
    AE B X (.Call (.Name "isinstance" p) [e, .Tuple [.Name T p2, .Name U p3] k4 p4] [] pos) (tCB (rIsiT K) (tCons te (tCons (tTup (tCons (tC (.ty Tn)) (tCons (tC (.ty Un)) tNil))) tNil))) (aIsi2 Tn Un a) := by
  subst hK
  exact ⟨pe_callB call_isiT hg hm hb (pa_cons h.pe (pa_cons (pe_tup (pa_cons (pe_bltn hgT hmT hv rfl hnT hdT) (pa_cons (pe_bltn hgU hmU hvU rfl hnU hdU) pa_nil h4) h3)) pa_nil h2) he) (by decide) (by decide) he hpl, by
    intro σ s F C R H Q P hs hS h0 k
    refine h.sim σ s F C R H _ _ hs hS h0 fun x v F1 C1 H1 e1 S1 r1 h1 => ?_
    split at h1
    · rename_i t q
      refine ⟨by show 2 ≤ sizeLine; rw [sizeLine_eq]; omega, fun tp hp => ?_⟩
      have eN := Ex.new (o := .tup [.ty Tn, .ty Un]) (S1.freeF hp)
      have S2 := S1.newF hp (.tup [.ty Tn, .ty Un])
      refine ⟨v, tp, [.ty Tn, .ty Un], .type t, [.type Tn, .type Un], isT Tn t || isT Un t, rfl, upd_same, .cons (.ty Tn) (.cons (.ty Un) .nil), kindOf_ok S2 (r1.mono eN) q, ?_, k _ _ _ _ _ (e1.trans eN) S2 (.bl _) h1⟩
      have k1 := kit_ty (K := X.K) (isT_ok t (kindOf_mem q) Tn hT)
      have k2 := kit_ty (K := X.K) (isT_ok t (kindOf_mem q) Un hU)
      refine kitAny_cons k1 (fun e3 => ?_) (fun e3 => ?_)
      · rw [e3]
        refine kitAny_cons k2 (fun e4 => ?_) (fun e4 => ?_)
        · rw [e4]; rfl
        · rw [e4]; rfl
      · rw [e3]; rfl
    · exact h1.elim⟩
end
section
variable {s : ASt} {C : AH} {P : D → AH → Prop} {e : AE'}
def kIsi2 (T U : String) (P : D → AH → Prop) : D → AH → Prop := fun x C1 => match kindOf C1 x with | some t => P (.bl (isT T t || isT U t)) C1 | none => False
theorem g_isi2 {T U : String} (h : e s C (kIsi2 T U P)) : aIsi2 T U e s C P := h
theorem g_kIsi2 {T U t : String} {x : D} (h1 : kindOf C x = some t) (h : P (.bl (isT T t || isT U t)) C) : kIsi2 T U P x C := by
  unfold kIsi2
  rw [h1]
  exact h
/-- zip of anything that reads as lists, nothing changing -/
theorem g_kIZg {PI : List D → (AH → Prop) → AH → Prop} {x y : D} {us ws : List D} (h1 : asLr C x = some us) (h2 : asLr C y = some ws) (h : PI (zipD us ws) (fun C' => asLr C' x = some us ∧ asLr C' y = some ws) C) : kIZ PI [x, y] C := by
  unfold kIZ
  simp only [h1, h2]
  exact h
end
end AL
/-! ### what stays -/
namespace AL
open PySem
def Keep (C C' : AH) : Prop := ∀ r c, C r = some c → C' r = some c
theorem Keep.refl (C : AH) : Keep C C := fun _ _ h => h
theorem Keep.trans {C C1 C2 : AH} (a : Keep C C1) (b : Keep C1 C2) : Keep C C2 := fun r c h => b r c (a r c h)
theorem Keep.put {C C' : AH} {q : Addr} {c : Cell} (h : Keep C C') (hq : C q = none) : Keep C (AL.put C' q c) := fun r d e => by rw [put_ne (ne_cell e hq)]; exact h r d e
theorem Keep.del {C C' : AH} {q : Addr} (h : Keep C C') (hq : C q = none) : Keep C (AL.del C' q) := fun r d e => by
  unfold AL.del
  rw [if_neg (ne_cell e hq)]
  exact h r d e
theorem Keep.none {C C' : AH} {q : Addr} (h : Keep C C') (hq : C' q = Option.none) : C q = Option.none := by
  cases e : C q with
  | none => rfl
  | some c => rw [h q c e] at hq; cases hq
/-- all but p -/
def Oth (p : Addr) (C C' : AH) : Prop := ∀ r c, r ≠ p → C r = some c → C' r = some c
theorem Oth.refl (p : Addr) (C : AH) : Oth p C C := fun _ _ _ h => h
theorem Oth.trans {p : Addr} {C C1 C2 : AH} (a : Oth p C C1) (b : Oth p C1 C2) : Oth p C C2 := fun r c n h => b r c n (a r c n h)
theorem Oth.of {p : Addr} {C C' : AH} (a : Keep C C') : Oth p C C' := fun r c _ h => a r c h
theorem Oth.pen {p : Addr} {C C' : AH} {c : Cell} (h : Oth p C C') : Oth p C (AL.put C' p c) := fun r d n e => by rw [put_ne n]; exact h r d n e
theorem Oth.put {p q : Addr} {C C' : AH} {c : Cell} (h : Oth p C C') (hq : C q = none) : Oth p C (AL.put C' q c) := fun r d n e => by rw [put_ne (ne_cell e hq)]; exact h r d n e
theorem Oth.del {p q : Addr} {C C' : AH} (h : Oth p C C') (hq : C q = none) : Oth p C (AL.del C' q) := fun r d n e => by
  unfold AL.del
  rw [if_neg (ne_cell e hq)]
  exact h r d n e
theorem Oth.none {p q : Addr} {C C' : AH} (h : Oth p C C') (hn : q ≠ p) (hq : C' q = Option.none) : C q = Option.none := by
  cases e : C q with
  | none => rfl
  | some c => rw [h q c hn e] at hq; cases hq
theorem atI_last {xs : List D} {i : Nat} {x : D} (hl : xs.length = i + 1) (h : xs[i]? = some x) : L2.atI xs (-1) = some x := by
  unfold L2.atI L2.ixN
  rw [hl, if_neg (by omega), if_pos (by omega)]
  show xs[(-1 + ((i + 1 : Nat) : Int)).toNat]? = _
  rw [show (-1 + ((i + 1 : Nat) : Int)).toNat = i by omega]
  exact h
theorem zipD_inv {xs ys : List D} {i : Nat} {d : D} (h : (zipD xs ys)[i]? = some d) : ∃ x y, xs[i]? = some x ∧ ys[i]? = some y ∧ d = .tup [x, y] := by
  unfold zipD at h
  rw [List.getElem?_map] at h
  cases e : (xs.zip ys)[i]? with
  | none => rw [e] at h; cases h
  | some p =>
    rw [e] at h
    cases h
    obtain ⟨h1, h2⟩ := List.getElem?_zip_eq_some.mp (show (xs.zip ys)[i]? = some (p.1, p.2) from e)
    exact ⟨p.1, p.2, h1, h2, rfl⟩
theorem lenG {C : AH} {P : D → AH → Prop} {g : D} {gs : List D} (h : asLr C g = some gs) (k : P (.int gs.length) C) : aLen [g] C P := by
  cases g with
  | scr ns =>
    cases h
    rw [List.length_map] at k
    exact g_lenR k
  | lst xs => cases h; exact g_lenL k
  | ce p =>
    have h : (match C p with | some (.lst us) => some us | _ => Option.none) = some gs := h
    cases e : C p with
    | none => rw [e] at h; cases h
    | some c =>
      rw [e] at h
      cases c with
      | lst us => cases h; exact g_lenC e k
      | _ => cases h
  | _ => cases h
end AL

namespace AL
open PySem PySem.Spec PyProof.Rows L2
/-! ### the end of a walk whose defs are known where no guard stands -/
section
variable {P : Program} {w : World} {K : PySem.W.Frag} {mg mb : Str → Option Value} {k : Nat} {fa a : Addr} {fd : FuncData} {x : Str} {sp : Sp} {s₁ : Shared} {vs : List Value} {ns : List Int}
theorem core_G (hns : s₁.heap.Ns mainGlobals mg) (hb : s₁.heap.Ns builtinsNs mb) (hbb : ∀ x : Str, x ≠ "__name__" → mb x = bootBuiltins x) (hlim : s₁.heap.NoLimit) (hg : s₁.gens = #[]) (KX : K.In s₁.heap)
    (ha : s₁.heap.get? a = some { cls := .type "list", data := .seq vs.toArray }) (hr : Room k callerA)
    (F : ∀ base : Heap, K.In base → base.Ns mainGlobals mg → FnG P w K mg base k fa fd [x] sp) (hbind : ∀ (s : Shared) (u : Value), BindsTo s fd ⟨[u], []⟩ [(x, u)])
    {H : Hp} (hO : Only H) (hsp : sp [.ref a] H (fun v _ => v = .bl true) fun _ _ _ => False) (hok : HOk P w H s₁.heap) (hA : ∀ b, H b ≠ none → b = a) (hK : H a ≠ none → K.lookup a = none) :
    codeAny (model P w) callerA (.call (.ref fa) ⟨[.ref a], []⟩) (fun r s' => r = .ok (.ret (.bool true)) ∧ OldK s₁.heap s'.heap ∧ s'.os = s₁.os ∧ AllBare s'.gens) s₁ := by
  have free : ∀ {b : Addr} {o : Obj}, s₁.heap.get? b = some o → (b = a → False) → H b = none := fun {b o} e n => by
    cases q : H b with
    | none => rfl
    | some u => exact (n (hA b (by rw [q]; simp))).elim
  have dictFree : ∀ {b : Addr} {m : Str → Option Value}, s₁.heap.Ns b m → (hidT s₁.heap H).Ns b m := by
    rintro b m ⟨o, es, ep, e, d, r⟩
    refine ⟨o, es, ep, hidT_get e (free e fun z => ?_), d, r⟩
    subst z
    rw [ha] at e
    cases e
    cases (show Data.seq vs.toArray _ = Data.dict es ep from d)
  have kin : K.In (hidT s₁.heap H) := fun b o e => hidT_get (KX b o e) (by
    cases q : H b with
    | none => rfl
    | some u =>
      have z : b = a := hA b (by rw [q]; simp)
      subst z
      rw [hK (by rw [q]; simp)] at e
      cases e)
  obtain ⟨mc, l1, l2⟩ := hlim
  have md : Mod K mg (hidT s₁.heap H) := ⟨kin, dictFree hns, ⟨mb, dictFree hb, hbb⟩, ⟨mc, dictFree l1, l2⟩⟩
  have e0 : Env0 P w K mg (hidT s₁.heap H) callerA [] s₁ H :=
    { frames := rfl, mod := md, bs := fun b o e => of_hidT e, bsz := Nat.le_of_eq (hidT_size _ _), funs := trivial, frf := fun b z => (by cases z), hok := hok, bare := .of_eq hg }
  refine codeAny_mono ((F _ kin (dictFree hns)).run callerA [] s₁ H ⟨[.ref a], []⟩ [.ref a] [.ref a] _ _ hr rfl e0 (hbind s₁ (.ref a)) (.cons rfl .nil) hsp) fun res s2 z => ?_
  match res, z with
  | .error e, z =>
    obtain ⟨_, _, _, _, _, _, _, _, _, _, _, _, z⟩ := z
    exact z.elim
  | .ok .next, z => exact False.elim z
  | .ok .brk, z => exact False.elim z
  | .ok .cont, z => exact False.elim z
  | .ok (.ret u), z =>
    obtain ⟨v, H2, os, bare, un, hok2, r, q⟩ := z
    cases (show v = .bl true from q)
    obtain rfl : u = Value.bool true := r
    refine ⟨rfl, OldK.of_keep fun b o e => ?_, os, bare⟩
    rcases hO b with z | ⟨ob, xs, z⟩
    · exact un.keep b o e z (by intro y; cases y) (by simp)
    · have e1 := (hok b _ z).1
      have e2 := (hok2 b _ (un.frzs b ob _ z)).1
      rw [e] at e1
      cases e1
      exact e2
theorem law_G (KX : K.In s₁.heap) (hns : s₁.heap.Ns mainGlobals mg) (hb : s₁.heap.Ns builtinsNs mb) (hbb : ∀ x : Str, x ≠ "__name__" → mb x = bootBuiltins x) (hlim : s₁.heap.NoLimit) (hg : s₁.gens = #[])
    (ha : s₁.heap.get? a = some { cls := .type "list", data := .seq vs.toArray }) (hi : IntsAre vs ns) (hl : ns.length ≤ sizeLine) (hr : Room k callerA)
    (F : ∀ base : Heap, K.In base → base.Ns mainGlobals mg → FnG P w K mg base k fa fd [x] sp) (hbind : ∀ (s : Shared) (u : Value), BindsTo s fd ⟨[u], []⟩ [(x, u)])
    (hsp : ∀ H : Hp, Only H → SqL K H a (ns.map V.int) → sp [.ref a] H (fun v _ => v = .bl true) fun _ _ _ => False) :
    codeAny (model P w) callerA (.call (.ref fa) ⟨[.ref a], []⟩) (fun r s' => r = .ok (.ret (.bool true)) ∧ OldK s₁.heap s'.heap ∧ s'.os = s₁.os ∧ AllBare s'.gens) s₁ := by
  have go := fun {H : Hp} (hO : Only H) (hS : SqL K H a (ns.map V.int)) => core_G hns hb hbb hlim hg KX ha hr F hbind hO (hsp H hO hS)
  cases hk : K.lookup a with
  | some o =>
    have e := KX a o hk
    rw [ha] at e
    cases e
    refine go (H := fun _ => none) (fun _ => .inl rfl) (.inr ⟨_, vs.toArray, _, hk, rfl, rfl, rfl, ?_, ?_⟩) (fun b u z => ?_) (fun b z => (z rfl).elim) fun z => (z rfl).elim
    · rw [List.size_toArray, hi.length]; exact hl
    · simpa using vals_ints hi
    · cases (show (none : Option HO) = some u from z)
  | none =>
    let oL : Obj := { cls := .type "list", data := .seq vs.toArray }
    let H0 : Hp := fun b => if b = a then some (.frz oL (.lst (ns.map V.int))) else none
    have at_a : H0 a = some (.frz oL (.lst (ns.map V.int))) := if_pos rfl
    have off : ∀ b, b ≠ a → H0 b = none := fun b n => if_neg n
    refine go (H := H0) (fun b => ?_) (.inl (.inr ⟨oL, at_a⟩)) (fun b u z => ?_) (fun b z => ?_) fun _ => hk
    · by_cases n : b = a
      · rw [n]; exact .inr ⟨_, _, at_a⟩
      · exact .inl (off b n)
    · by_cases n : b = a
      · subst n
        rw [at_a] at z
        cases z
        exact ⟨ha, by rw [List.length_map]; exact hl, vs, _, vals_ints hi, ha⟩
      · rw [off b n] at z; cases z
    · by_cases n : b = a
      · exact n
      · exact (z (off b n)).elim
end
theorem walk_G {l : PySem.W.OpenLaw} {n k : Nat} {q : Program} {loose : List Str} {XP : (Str → Option Value) → Heap → Prop} {YP : World → Heap → Prop} {d : DefRec} {K : Params → PySem.W.Frag} {sp : World → Sp} {x : Str}
    (hn : l.most = some n) (hn2 : n ≤ sizeLine) (hdf : d.params.defaults = []) (hr : Room k callerA) (hY : ∀ (w : World) (h : Heap), YP w h → (K w.params).In h)
    (F : ∀ (w : World) (mg : Str → Option Value) (fa : Addr) (h : Heap), (K w.params).In h → h.Ns mainGlobals mg → mg d.name = some (.ref fa) →
      ∃ fd : FuncData, (∀ (s : Shared) (u : Value), BindsTo s fd ⟨[u], []⟩ [(x, u)]) ∧ ∀ base : Heap, (K w.params).In base → base.Ns mainGlobals mg → FnG l.prog w (K w.params) mg base k fa fd [x] (sp w))
    (hsp : ∀ (w : World) (H : Hp) (a : Addr) (ns : List Int), ns.length ≤ n → Only H → SqL (K w.params) H a (ns.map V.int) → sp w [.ref a] H (fun v _ => v = .bl true) fun _ _ _ => False) :
    PySem.W.WalkO q loose XP YP l.row.toRowW d [] (fun f vs => PySem.call f vs) :=
  Att.attach_call hn hdf fun w s₀ s₁ mg mb fa o pm cd doc a vs ns G Y ho hd hcd hmg hobj hints hlen hg => by
    obtain ⟨fd, hb, hF⟩ := F w mg fa _ (hY w _ Y) G.T.g hmg
    exact law_G (hY w _ Y) G.T.g G.T.b G.T.builtins G.T.nolimit hg hobj hints (Nat.le_trans hlen hn2) hr hF hb fun H hO hS => hsp w H a ns hlen hO hS
end AL

namespace AL
open PySem PySem.Spec PyProof.Rows L2
variable {B : Bs}
section
variable {X : Cx} {K : PySem.W.Frag}
theorem u200 {k : Nat} {A : Around} (r : Room k A) : A.units + 200 < cLine := by
  have := r.un
  omega
/-! ### repr -/
def rRep (K : PySem.W.Frag) : List V → Hp → VK → Prop := fun xs H Q => ∃ x d, xs = [x] ∧ Dp K H x d ∧ d.showable = true ∧ d.hasDict = false ∧ d.depth ≤ 64 ∧ d.shown.length ≤ sizeLine ∧ Q (.str d.shown) H
theorem call_rep (hg : X.A.guards = some []) (hu : X.A.units + 200 < cLine) : CallR X (.builtin "repr") (rRep X.K) := by
  intro pins s σ H xs us Q I r h
  obtain ⟨x, d, rfl, hd, h1, h2, h3, h4, q⟩ := h
  obtain ⟨u, rfl, r1⟩ := vals1 r
  obtain ⟨as, rd⟩ := Dp.reads I d x u hd r1
  have fin : ∀ (tk : Nat) (t : Tok), EP X pins σ Q (.str d.shown t) { s with toks := tk } := fun tk t => ⟨.str _, H, I.tok _, ⟨t, rfl⟩, q⟩
  cases rd with
  | none => exact PySem.call_repr_gives (PySem.typeIs_none s) F.slot_NoneType_repr F.entry_NoneType_repr (F.args_NoneType_repr_1 _) gives_none_repr (by simpa [PyData.shown] using fin _ _) rfl (by decide)
  | bool b => exact PySem.call_repr_gives (PySem.typeIs_bool s b) F.slot_bool_repr F.entry_bool_repr (F.args_bool_repr_1 _) (gives_bool_repr b) (by simpa [PyData.shown] using fin _ _) rfl (by cases b <;> decide)
  | int i t => exact PySem.P.repr_of_int (by simpa [PyData.showable] using h1) (by simpa [PyData.shown] using fin _ _)
  | str z t => exact PySem.call_repr_gives (PySem.typeIs_str s z t) F.slot_str_repr F.entry_str_repr (F.args_str_repr_1 _) (gives_str_repr z t) (by simpa [PyData.shown] using fin _ _) rfl (by simpa [PyData.shown] using h4)
  | list a b c e => exact repr_of_reads' (.list a b c e) h1 (PyData.noDict_hsm h2) hg (by omega) (fun _ _ e => e) (fun h' u tk k => ⟨.str _, H, (I.kept (t' := tk) k), ⟨u, rfl⟩, q⟩) h4
  | tuple a b c e => exact repr_of_reads' (.tuple a b c e) h1 (PyData.noDict_hsm h2) hg (by omega) (fun _ _ e => e) (fun h' u tk k => ⟨.str _, H, (I.kept (t' := tk) k), ⟨u, rfl⟩, q⟩) h4
  | dict a b c e f => simp [PyData.hasDict] at h2
def aReprC : ASp := fun ds C P => match ds with
  | [d] => (match pdC C d with | some x => x.showable = true ∧ x.hasDict = false ∧ x.depth ≤ 64 ∧ x.shown.length ≤ sizeLine ∧ P (.str x.shown) C | none => False)
  | _ => False
theorem ac_reprC (hg : X.A.guards = some []) (hu : X.A.units + 200 < cLine) (hK : X.K = K := by rfl) : ACa B X (.builtin "repr") (rRep K) aReprC := by
  subst hK
  exact ⟨call_rep hg hu, by
  intro vs ds F C R H Q P hS r h k
  unfold aReprC at h
  split at h
  · cases r with
    | cons r1 r2 =>
      cases r2
      split at h
      · rename_i x e
        exact ⟨_, x, rfl, pdC_ok hS r1 e, h.1, h.2.1, h.2.2.1, h.2.2.2.1, k _ _ F C H (Ex.refl F) hS (.str _) h.2.2.2.2⟩
      · exact h.elim
  · exact h.elim⟩
end
end AL

namespace AL
open PySem PySem.Spec PyProof.Rows L2
variable {B : Bs}
/-! ### repr of trees with dicts within -/
mutual
def D.pe : D → Option PyData
  | .non => some .none
  | .bl b => some (.bool b)
  | .int i => some (.int i)
  | .str x => some (.str x)
  | .lst ds => (peL ds).map .list
  | .tup ds => (peL ds).map .tuple
  | .dk es => (peK es).map .dict
  | _ => none
def peL : List D → Option (List PyData)
  | [] => some []
  | d :: ds => match D.pe d, peL ds with | some x, some xs => some (x :: xs) | _, _ => none
def peK : List (Key × D) → Option (List (PyData × PyData))
  | [] => some []
  | (k, d) :: es => match D.pe d, peK es with | some x, some xs => some ((match k with | .inl i => PyData.int i | .inr z => PyData.str z, x) :: xs) | _, _ => none
end
section
variable {X : Cx} {K : PySem.W.Frag} {pins : List (Addr × Obj)} {σ : L2.St} {H F : Hp} {s : Shared}
/-- shown, one way or another -/
def Shw (X : Cx) (h : Heap) (u : Value) (x : PyData) : Prop := (∃ as, Reads h u x as) ∧ ∃ bs, ReadAtMost h x.depth bs ∧ ReprK X.prog X.w bs h x.depth u x.shown
def ShwL (X : Cx) (h : Heap) (us : List Value) (xs : List PyData) : Prop := (∃ as, ReadsAll h us xs as) ∧ ∃ bs, ReadAtMost h (PyData.depthAll xs) bs ∧ ReprAllK X.prog X.w bs h (PyData.depthAll xs) us (PyData.shownAll xs)
theorem ShwL.nil {h : Heap} : ShwL X h [] [] := ⟨⟨_, .nil⟩, [], fun _ z => (by cases z), by simp only [PyData.shownAll]; exact .nil⟩
theorem ShwL.cons {h : Heap} {u : Value} {us : List Value} {x : PyData} {xs : List PyData} (a : Shw X h u x) (b : ShwL X h us xs) : ShwL X h (u :: us) (x :: xs) := by
  obtain ⟨⟨_, r1⟩, b1, m1, k1⟩ := a
  obtain ⟨⟨_, r2⟩, b2, m2, k2⟩ := b
  have ed : PyData.depthAll (x :: xs) = max x.depth (PyData.depthAll xs) := by simp only [PyData.depthAll]
  refine ⟨⟨_, .cons r1 r2⟩, b1 ++ b2, ?_, ?_⟩
  · rw [ed]
    exact (m1.mono (Nat.le_max_left _ _)).append (m2.mono (Nat.le_max_right _ _))
  · rw [ed]
    simp only [PyData.shownAll]
    exact .cons ((k1.more fun z hz => List.mem_append_left _ hz).level_le (Nat.le_max_left _ _)) (k2.more_le (fun z hz => List.mem_append_right _ hz) (Nat.le_max_right _ _))
theorem shown_memL {xs : List PyData} {t : Str} (h : t ∈ PyData.shownAll xs) : t.length ≤ (PyData.list xs).shown.length := by
  simp only [PyData.shown]; exact listText_mem_le h
theorem shown_memT {xs : List PyData} {t : Str} (h : t ∈ PyData.shownAll xs) : t.length ≤ (PyData.tuple xs).shown.length := by
  simp only [PyData.shown]; exact tupleText_mem_le h
theorem shw_list {h : Heap} {a : Addr} {its : List Value} {xs : List PyData} (p : PlainL h a its.toArray) (q : ShwL X h its xs) : Shw X h (.ref a) (.list xs) := by
  obtain ⟨o, n, h1, h2, _, h3⟩ := p
  obtain ⟨⟨as, r⟩, bs, m, k⟩ := q
  have rr : Reads h (.ref a) (.list xs) _ := .list h1 h2 h3 (by simpa using r)
  have na : a ∉ bs := not_mem_of_deeper rr (by simp only [PyData.depth]; omega) m
  refine ⟨⟨_, rr⟩, a :: bs, ReadAtMost.cons rr (by simp only [PyData.depth]; omega) m, ?_⟩
  simp only [PyData.depth, PyData.shown]
  cases its with
  | nil =>
    have r' : ReadsAll h [] xs as := r
    cases r'
    simp only [PyData.shownAll]
    rw [listText_nil]
    exact (ReprK.listEmpty h1 h2 h3).more fun _ z => z
  | cons y l => exact ReprK.list h1 h2 h3 na (by simpa using k.length_eq) fun i z e => k.item i z (by simpa using e)
theorem shw_tup {h : Heap} {a : Addr} {its : List Value} {xs : List PyData} (p : IsTup h a its.toArray) (q : ShwL X h its xs) : Shw X h (.ref a) (.tuple xs) := by
  obtain ⟨o, h1, h2, n, h3⟩ := p
  obtain ⟨⟨as, r⟩, bs, m, k⟩ := q
  have rr : Reads h (.ref a) (.tuple xs) _ := .tuple h1 h2 h3 (by simpa using r)
  have na : a ∉ bs := not_mem_of_deeper rr (by simp only [PyData.depth]; omega) m
  refine ⟨⟨_, rr⟩, a :: bs, ReadAtMost.cons rr (by simp only [PyData.depth]; omega) m, ?_⟩
  simp only [PyData.depth, PyData.shown]
  exact ReprK.tuple h1 h2 h3 na (by simpa using k)
/-- a dict's entries -/
theorem shw_dict {h : Heap} {a : Addr} {o : Obj} {es : Array DictEntry} {n : Nat} {kvs : List (PyData × PyData)} (h1 : h.get? a = some o) (h2 : o.cls = .type "dict") (h3 : o.data = .dict es n) (lo : (a == sysModules) = false)
    (q1 : ShwL X h (es.toList.map (·.key)) (kvs.map (·.1))) (q2 : ShwL X h (es.toList.map (·.val)) (kvs.map (·.2))) : Shw X h (.ref a) (.dict kvs) := by
  obtain ⟨⟨as, r⟩, bs, m, k⟩ := q1
  obtain ⟨⟨as2, r2⟩, bs2, m2, k2⟩ := q2
  have rr : Reads h (.ref a) (.dict kvs) _ := .dict h1 h2 h3 r r2
  have mm : ReadAtMost h (PyData.depthKv kvs) (bs ++ bs2) := (m.mono (PyData.depthAll_keys_le kvs)).append (m2.mono (PyData.depthAll_vals_le kvs))
  have na : a ∉ bs ++ bs2 := not_mem_of_deeper rr (by simp only [PyData.depth]; omega) mm
  refine ⟨⟨_, rr⟩, a :: (bs ++ bs2), ReadAtMost.cons rr (by simp only [PyData.depth]; omega) mm, ?_⟩
  simp only [PyData.depth, PyData.shown, PyData.shownKv_eq]
  have kk := k.more_le (as' := bs ++ bs2) (fun z hz => List.mem_append_left _ hz) (PyData.depthAll_keys_le kvs)
  have vv := k2.more_le (as' := bs ++ bs2) (fun z hz => List.mem_append_right _ hz) (PyData.depthAll_vals_le kvs)
  exact ReprK.dict h1 h2 h3 lo na (ReprEntriesK.of_two es.toList _ _ kk vv)
theorem keyDat {k : Key} {v : Value} (h : keyIs k v = true) {hp : Heap} (hs : (match k with | .inl i => PyData.int i | .inr z => PyData.str z).showable = true) (hz : (match k with | .inl i => PyData.int i | .inr z => PyData.str z).shown.length ≤ sizeLine) :
    Shw X hp v (match k with | .inl i => PyData.int i | .inr z => PyData.str z) := by
  rcases keyIs_shape h with ⟨i, t, rfl, rfl⟩ | ⟨z, t, rfl, rfl⟩
  · exact ⟨⟨_, .int i t⟩, [], fun _ q => (by cases q), by simp only [PyData.shown]; exact .of_is (ReprIs.int t (by simpa [PyData.showable] using hs)) _ _ _⟩
  · exact ⟨⟨_, .str z t⟩, [], fun _ q => (by cases q), by simp only [PyData.shown]; exact .of_is (ReprIs.str z t (by simpa only [PyData.shown] using hz)) _ _ _⟩
mutual
theorem shw_of (I : Inv X pins σ H s) (e : Ex F H) : ∀ (d : D) (v : V) (u : Value) (x : PyData), Rep X.K F v d → RelV v u → d.pe = some x → x.showable = true → x.shown.length ≤ sizeLine → Shw X s.heap u x
  | .non, _, _, _, r, q, h, _, _ => by
    cases r; cases q; cases h
    exact ⟨⟨_, .none⟩, [], fun _ z => (by cases z), by simp only [PyData.shown]; exact .of_is ReprIs.none _ _ _⟩
  | .bl b, _, _, _, r, q, h, _, _ => by
    cases r; cases q; cases h
    exact ⟨⟨_, .bool b⟩, [], fun _ z => (by cases z), by simp only [PyData.shown]; exact .of_is (ReprIs.bool b) _ _ _⟩
  | .int i, _, _, _, r, q, h, hs, _ => by
    cases r; obtain ⟨t, rfl⟩ := q; cases h
    exact ⟨⟨_, .int i t⟩, [], fun _ z => (by cases z), by simp only [PyData.shown]; exact .of_is (ReprIs.int t (by simpa [PyData.showable] using hs)) _ _ _⟩
  | .str z, _, _, _, r, q, h, _, hz => by
    cases r; obtain ⟨t, rfl⟩ := q; cases h
    exact ⟨⟨_, .str z t⟩, [], fun _ q => (by cases q), by simp only [PyData.shown]; exact .of_is (ReprIs.str z t (by simpa only [PyData.shown] using hz)) _ _ _⟩
  | .lst ds, _, _, _, r, q, h, hs, hz => by
    cases r with
    | lst h1 h2 =>
      cases q
      simp only [D.pe] at h
      cases g : peL ds with
      | none => rw [g] at h; cases h
      | some xs =>
        rw [g] at h; cases h
        obtain ⟨its, rv, pl, _⟩ := I.list (SqL.of (e _ _ h1))
        exact shw_list pl (shwL_of I e ds _ its xs h2 rv g (by simpa [PyData.showable] using hs) fun t ht => Nat.le_trans (shown_memL ht) hz)
  | .tup ds, _, _, _, r, q, h, hs, hz => by
    cases r with
    | tup h1 h2 =>
      cases q
      simp only [D.pe] at h
      cases g : peL ds with
      | none => rw [g] at h; cases h
      | some xs =>
        rw [g] at h; cases h
        obtain ⟨its, rv, pl, _⟩ := I.tuple (SqT.of (e _ _ h1))
        exact shw_tup pl (shwL_of I e ds _ its xs h2 rv g (by simpa [PyData.showable] using hs) fun t ht => Nat.le_trans (shown_memT ht) hz)
  | .dk es, _, _, _, r, q, h, hs, hz => by
    cases r with
    | dk h1 h2 =>
      cases q
      simp only [D.pe] at h
      cases g : peK es with
      | none => rw [g] at h; cases h
      | some xs =>
        rw [g] at h; cases h
        obtain ⟨_, lo, vs, kv, o, ens, ep, a1, a2, a3, a4, a5, a6⟩ := dk_of I.hok (e _ _ h1)
        obtain ⟨s1, s2⟩ := PyData.showableKv_split xs (by simpa [PyData.showable] using hs)
        have hz' : (dictText (PyData.shownKv xs)).length ≤ sizeLine := by simpa only [PyData.shown] using hz
        obtain ⟨k1, k2⟩ := shwK_of I e es _ vs ens.toList xs h2 kv a5 g s1 s2 (fun t ht => let ⟨p, hp, hl⟩ := PyData.shownKv_key_le xs t ht; Nat.le_trans hl (Nat.le_trans (dictText_mem_le hp) hz'))
          (fun t ht => let ⟨p, hp, hl⟩ := PyData.shownKv_val_le xs t ht; Nat.le_trans hl (Nat.le_trans (dictText_mem_le hp) hz'))
        exact shw_dict a1 a2.1 a3 lo k1 k2
  | .scr _, _, _, _, _, _, h, _, _ => by simp [D.pe] at h
  | .ce _, _, _, _, _, _, h, _, _ => by simp [D.pe] at h
theorem shwL_of (I : Inv X pins σ H s) (e : Ex F H) : ∀ (ds : List D) (vs : List V) (us : List Value) (xs : List PyData), RepL X.K F vs ds → Vals vs us → peL ds = some xs → PyData.showableAll xs = true → (∀ t ∈ PyData.shownAll xs, t.length ≤ sizeLine) → ShwL X s.heap us xs
  | [], _, _, _, r, q, h, _, _ => by
    cases r; cases q
    simp only [peL] at h
    cases h
    exact .nil
  | d :: ds, _, _, _, r, q, h, hs, hz => by
    cases r with
    | cons r1 r2 =>
      cases q with
      | cons q1 q2 =>
        unfold peL at h
        split at h
        · rename_i g1 g2
          cases h
          simp only [PyData.showableAll, Bool.and_eq_true] at hs
          simp only [PyData.shownAll] at hz
          exact ShwL.cons (shw_of I e d _ _ _ r1 q1 g1 hs.1 (hz _ (List.mem_cons_self ..))) (shwL_of I e ds _ _ _ r2 q2 g2 hs.2 fun t ht => hz t (List.mem_cons_of_mem _ ht))
        · cases h
theorem shwK_of (I : Inv X pins σ H s) (e : Ex F H) : ∀ (es : List (Key × D)) (kvs : List (Key × V)) (vs : List (Key × Value)) (ens : List DictEntry) (xs : List (PyData × PyData)), RepK X.K F kvs es → KV kvs vs → Pairs (mixKind X.prog X.w) ens vs → peK es = some xs →
    PyData.showableAll (xs.map (·.1)) = true → PyData.showableAll (xs.map (·.2)) = true → (∀ t ∈ PyData.shownAll (xs.map (·.1)), t.length ≤ sizeLine) → (∀ t ∈ PyData.shownAll (xs.map (·.2)), t.length ≤ sizeLine) →
    ShwL X s.heap (ens.map (·.key)) (xs.map (·.1)) ∧ ShwL X s.heap (ens.map (·.val)) (xs.map (·.2))
  | [], _, _, _, _, r, q, p, h, _, _, _, _ => by
    cases r; cases q; cases p
    simp only [peK] at h
    cases h
    exact ⟨.nil, .nil⟩
  | (k, d) :: es, _, _, _, _, r, q, p, h, s1, s2, z1, z2 => by
    cases r with
    | cons r1 r2 =>
      cases q with
      | cons q1 q2 =>
        cases p with
        | cons p1 p2 p3 =>
          unfold peK at h
          split at h
          · rename_i g1 g2
            cases h
            simp only [List.map_cons, PyData.showableAll, Bool.and_eq_true] at s1 s2
            simp only [List.map_cons, PyData.shownAll] at z1 z2
            obtain ⟨i1, i2⟩ := shwK_of I e es _ _ _ _ r2 q2 p3 g2 s1.2 s2.2 (fun t ht => z1 t (List.mem_cons_of_mem _ ht)) (fun t ht => z2 t (List.mem_cons_of_mem _ ht))
            obtain ⟨q11, q12⟩ := q1
            have e1 : k = _ := q11
            subst e1
            refine ⟨ShwL.cons (keyDat p1 s1.1 (z1 _ (List.mem_cons_self ..))) i1, ShwL.cons ?_ i2⟩
            show Shw X s.heap (DictEntry.val _) _
            rw [p2]
            exact shw_of I e d _ _ _ r1 q12 g1 s2.1 (z2 _ (List.mem_cons_self ..))
          · cases h
end
/-- repr(x), what x is told by its tree -/
def rRepE (K : PySem.W.Frag) : List V → Hp → VK → Prop := fun xs H Q => ∃ v d F x, xs = [v] ∧ Ex F H ∧ Rep K F v d ∧ D.pe d = some x ∧ x.showable = true ∧ x.depth ≤ 64 ∧ x.shown.length ≤ sizeLine ∧ Q (.str x.shown) H
theorem call_repE (hg : X.A.guards = some []) (hu : X.A.units + 200 < cLine) : CallR X (.builtin "repr") (rRepE X.K) := by
  intro pins s σ H xs us Q I r h
  obtain ⟨v, d, F, x, rfl, ex, rd, hp, h1, h3, h4, q⟩ := h
  obtain ⟨u, rfl, r1⟩ := vals1 r
  have fin : ∀ (h' : Heap) (t tk : Tok), (∀ b o, s.heap.get? b = some o → h'.get? b = some o) → EP X pins σ Q (.str x.shown t) { s with heap := h', toks := tk } := fun h' t tk k => ⟨.str _, H, (I.kept (t' := tk) k), ⟨t, rfl⟩, q⟩
  have hu2 : ∀ n, n ≤ 64 → X.A.in1.units + n < cLine := fun n hn => by show X.A.units + 1 + n < cLine; omega
  cases d with
  | non =>
    cases rd; cases r1; cases hp
    exact PySem.call_repr_gives (PySem.typeIs_none s) PySem.F.slot_NoneType_repr PySem.F.entry_NoneType_repr (PySem.F.args_NoneType_repr_1 _) gives_none_repr (by simpa [PyData.shown] using fin s.heap _ _ fun _ _ e => e) rfl (by decide)
  | bl b =>
    cases rd; cases r1; cases hp
    exact PySem.call_repr_gives (PySem.typeIs_bool s b) PySem.F.slot_bool_repr PySem.F.entry_bool_repr (PySem.F.args_bool_repr_1 _) (gives_bool_repr b) (by simpa [PyData.shown] using fin s.heap _ _ fun _ _ e => e) rfl (by cases b <;> decide)
  | int i =>
    cases rd; obtain ⟨t, rfl⟩ := r1; cases hp
    exact PySem.P.repr_of_int (by simpa [PyData.showable] using h1) (by simpa [PyData.shown] using fin s.heap _ _ fun _ _ e => e)
  | str z =>
    cases rd; obtain ⟨t, rfl⟩ := r1; cases hp
    exact PySem.call_repr_gives (PySem.typeIs_str s z t) PySem.F.slot_str_repr PySem.F.entry_str_repr (PySem.F.args_str_repr_1 _) (gives_str_repr z t) (by simpa [PyData.shown] using fin s.heap _ _ fun _ _ e => e) rfl (by simpa [PyData.shown] using h4)
  | lst ds =>
    cases rd with
    | lst g1 g2 =>
      cases r1
      simp only [D.pe] at hp
      cases g : peL ds with
      | none => rw [g] at hp; cases hp
      | some xs =>
        rw [g] at hp; cases hp
        obtain ⟨its, rv, ⟨o, n, a1, a2, a3, a4⟩, _⟩ := I.list (SqL.of (ex _ _ g1))
        have sl := shwL_of I ex ds _ its xs g2 rv g (by simpa [PyData.showable] using h1) fun t ht => Nat.le_trans (shown_memL ht) h4
        obtain ⟨⟨as, rr⟩, bs, m, k⟩ := sl
        have rr2 : Reads s.heap (.ref _) (.list xs) _ := .list a1 a2 a4 (by simpa using rr)
        have na := not_mem_of_deeper rr2 (by simp only [PyData.depth]; omega) m
        simp only [PyData.depth] at h3
        simp only [PyData.shown] at fin h4
        refine call_repr_slot (by omega) ⟨o, a1, a2⟩ PySem.F.slot_list_repr.toG ?_
        cases its with
        | nil =>
          have rr' : ReadsAll s.heap [] xs as := rr
          cases rr'
          simp only [PyData.shownAll, listText_nil] at fin
          exact call_list_repr_empty ⟨o, a1, a2⟩ a1 a4 ⟨_, _, rfl, fin s.heap _ _ fun _ _ e => e⟩
        | cons y l => exact call_list_reprK a1 a2 a4 na (by simpa using k.length_eq) (fun i z e => k.item i z (by simpa using e)) (show X.A.in1.guards = some [] from hg) (fun b _ => Clear.nil b) (hu2 _ h3) (fun _ _ e => e) (fun h' t tk kp => ⟨_, _, rfl, fin h' t tk kp⟩) h4
  | tup ds =>
    cases rd with
    | tup g1 g2 =>
      cases r1
      simp only [D.pe] at hp
      cases g : peL ds with
      | none => rw [g] at hp; cases hp
      | some xs =>
        rw [g] at hp; cases hp
        obtain ⟨its, rv, ⟨o, a1, a2, n, a4⟩, _⟩ := I.tuple (SqT.of (ex _ _ g1))
        have sl := shwL_of I ex ds _ its xs g2 rv g (by simpa [PyData.showable] using h1) fun t ht => Nat.le_trans (shown_memT ht) h4
        obtain ⟨⟨as, rr⟩, bs, m, k⟩ := sl
        have rr2 : Reads s.heap (.ref _) (.tuple xs) _ := .tuple a1 a2 a4 (by simpa using rr)
        have na := not_mem_of_deeper rr2 (by simp only [PyData.depth]; omega) m
        simp only [PyData.depth] at h3
        simp only [PyData.shown] at fin h4
        refine call_repr_slot (by omega) ⟨o, a1, a2⟩ PySem.F.slot_tuple_repr ?_
        exact call_tuple_reprK a1 a2 a4 na (by simpa using k) (show X.A.in1.guards = some [] from hg) (fun b _ => Clear.nil b) (hu2 _ h3) (fun _ _ e => e) (fun h' t tk kp => ⟨_, _, rfl, fin h' t tk kp⟩) h4
  | dk es =>
    cases rd with
    | dk g1 g2 =>
      cases r1
      simp only [D.pe] at hp
      cases g : peK es with
      | none => rw [g] at hp; cases hp
      | some xs =>
        rw [g] at hp; cases hp
        obtain ⟨_, lo, vs, kv, o, ens, ep, a1, a2, a3, a4, a5, a6⟩ := dk_of I.hok (ex _ _ g1)
        obtain ⟨s1, s2⟩ := PyData.showableKv_split xs (by simpa [PyData.showable] using h1)
        have hz' : (dictText (PyData.shownKv xs)).length ≤ sizeLine := by simpa only [PyData.shown] using h4
        obtain ⟨⟨⟨as, r1⟩, b1, m1, k1⟩, ⟨as2, r2⟩, b2, m2, k2⟩ := shwK_of I ex es _ vs ens.toList xs g2 kv a5 g s1 s2 (fun t ht => let ⟨p, hp, hl⟩ := PyData.shownKv_key_le xs t ht; Nat.le_trans hl (Nat.le_trans (dictText_mem_le hp) hz'))
          (fun t ht => let ⟨p, hp, hl⟩ := PyData.shownKv_val_le xs t ht; Nat.le_trans hl (Nat.le_trans (dictText_mem_le hp) hz'))
        have rr : Reads s.heap (.ref _) (.dict xs) _ := .dict a1 a2.1 a3 r1 r2
        have mm : ReadAtMost s.heap (PyData.depthKv xs) (b1 ++ b2) := (m1.mono (PyData.depthAll_keys_le xs)).append (m2.mono (PyData.depthAll_vals_le xs))
        have na := not_mem_of_deeper rr (by simp only [PyData.depth]; omega) mm
        have kk := k1.more_le (as' := b1 ++ b2) (fun z hz => List.mem_append_left _ hz) (PyData.depthAll_keys_le xs)
        have vv := k2.more_le (as' := b1 ++ b2) (fun z hz => List.mem_append_right _ hz) (PyData.depthAll_vals_le xs)
        simp only [PyData.depth] at h3
        simp only [PyData.shown, PyData.shownKv_eq] at fin
        refine call_repr_slot (by omega) ⟨o, a1, a2.1⟩ PySem.F.slot_dict_repr ?_
        exact call_dict_reprK a1 a2.1 a3 lo na (ReprEntriesK.of_two ens.toList _ _ kk vv) (show X.A.in1.guards = some [] from hg) (fun b _ => Clear.nil b) (hu2 _ h3) (fun _ _ e => e) (fun h' t tk kp => ⟨_, _, rfl, fin h' t tk kp⟩) (by rw [← PyData.shownKv_eq]; exact hz')
  | scr ns => simp [D.pe] at hp
  | ce p => simp [D.pe] at hp
def aRepr : ASp := fun ds C P => (∃ d x, ds = [d] ∧ D.pe d = some x ∧ x.showable = true ∧ x.depth ≤ 64 ∧ x.shown.length ≤ sizeLine ∧ P (.str x.shown) C) ∨ aReprC ds C P
theorem ac_repr (hg : X.A.guards = some []) (hu : X.A.units + 200 < cLine) (hK : X.K = K := by rfl) : ACa B X (.builtin "repr") (fun vs H Q => rRepE K vs H Q ∨ rRep K vs H Q) aRepr := by
  subst hK
  refine ⟨(call_repE hg hu).or (call_rep hg hu), ?_⟩
  intro vs ds F C R H Q P hS r h k
  rcases h with ⟨d, x, rfl, h1, h2, h3, h4, h5⟩ | h
  · cases r with
    | cons r1 r2 =>
      cases r2
      exact .inl ⟨_, d, F, x, rfl, hS.ex, r1, h1, h2, h3, h4, k _ _ F C H (Ex.refl F) hS (.str _) h5⟩
  · exact .inr ((ac_reprC (B := B) hg hu).sim vs ds F C R H Q P hS r h k)
end
/-! ### trees that repr tells -/
def okKey : Key → Bool
  | .inl i => decide (i.natAbs.log2 < 1900)
  | .inr x => x.cps.all (· < 0x110000)
def datKey : Key → PyData
  | .inl i => .int i
  | .inr x => .str x
def blkKey : Key → Nat
  | .inl _ => 0
  | .inr x => x.length
mutual
/-- no cells within; texts of signs; numbers of few figures -/
def okR : D → Nat → Bool
  | .non, _ => true
  | .bl _, _ => true
  | .int i, _ => decide (i.natAbs.log2 < 1900)
  | .str x, _ => x.cps.all (· < 0x110000)
  | .lst ds, n + 1 => okRs ds n
  | .tup ds, n + 1 => okRs ds n
  | .dk es, n + 1 => okRk es n
  | _, _ => false
def okRs : List D → Nat → Bool
  | [], _ => true
  | d :: ds, n => okR d n && okRs ds n
def okRk : List (Key × D) → Nat → Bool
  | [], _ => true
  | (k, d) :: es, n => okKey k && okR d n && okRk es n
end
mutual
def blk : D → Nat
  | .str x => x.length
  | .lst ds => blks ds
  | .tup ds => blks ds
  | .dk es => blkk es
  | _ => 0
def blks : List D → Nat
  | [] => 0
  | d :: ds => blk d + 1 + blks ds
def blkk : List (Key × D) → Nat
  | [] => 0
  | (k, d) :: es => blkKey k + blk d + 2 + blkk es
end
theorem okRs_all {ds : List D} {n : Nat} : okRs ds n = true ↔ ∀ d ∈ ds, okR d n = true := by
  induction ds with
  | nil => simp [okRs]
  | cons d ds ih => simp [okRs, ih]
theorem int_len (i : Int) : (Str.ofString (toString i)).length ≤ i.natAbs.log2 + 3 := by
  rw [PySem.ofString_length]
  exact Nat.le_succ_of_le (PySem.int_text_length_le (a := i) (k := i.natAbs.log2 + 1) (by omega) (by omega))
theorem short_int {i : Int} (h : i.natAbs.log2 < 1900) : (PyData.shown (.int i)).length ≤ 1922 := by
  have := int_len i
  simp only [PyData.shown]
  omega
theorem short_str {x : Str} (h : x.cps.all (· < 0x110000) = true) : (PyData.str x).leavesShort 1922 = true := by
  simp only [PyData.leavesShort, List.all_eq_true, decide_eq_true_eq]
  intro c hc
  simp only [Array.all_eq_true, decide_eq_true_eq] at h
  obtain ⟨i, hi, rfl⟩ := List.getElem_of_mem hc
  have := h i (by simpa using hi)
  simp only [Array.getElem_toList]
  omega
theorem okKey_dat {k : Key} (h : okKey k = true) : (datKey k).showable = true ∧ (datKey k).depth = 0 ∧ (datKey k).leavesShort 1922 = true ∧ (datKey k).bulk = blkKey k := by
  cases k with
  | inl i =>
    simp only [okKey, decide_eq_true_eq] at h
    exact ⟨by simp only [datKey, PyData.showable, decide_eq_true_eq]; omega, by simp [datKey, PyData.depth], by simp only [datKey, PyData.leavesShort, decide_eq_true_eq]; exact short_int h, by simp [datKey, PyData.bulk, blkKey]⟩
  | inr x => exact ⟨by simp [datKey, PyData.showable], by simp [datKey, PyData.depth], short_str h, by simp [datKey, PyData.bulk, blkKey]; rfl⟩
mutual
theorem okR_pe : ∀ (d : D) (n : Nat), okR d n = true → ∃ x, d.pe = some x ∧ x.showable = true ∧ x.depth ≤ n ∧ x.leavesShort 1922 = true ∧ x.bulk = blk d
  | .non, n, _ => ⟨.none, by simp [D.pe], by simp [PyData.showable], by simp [PyData.depth], by simp [PyData.leavesShort], by simp [PyData.bulk, blk]⟩
  | .bl b, n, _ => ⟨.bool b, by simp [D.pe], by simp [PyData.showable], by simp [PyData.depth], by simp [PyData.leavesShort], by simp [PyData.bulk, blk]⟩
  | .int i, n, h => by
    simp only [okR, decide_eq_true_eq] at h
    exact ⟨.int i, by simp [D.pe], by simp only [PyData.showable, decide_eq_true_eq]; omega, by simp [PyData.depth], by simp only [PyData.leavesShort, decide_eq_true_eq]; exact short_int h, by simp [PyData.bulk, blk]⟩
  | .str x, n, h => ⟨.str x, by simp [D.pe], by simp [PyData.showable], by simp [PyData.depth], short_str (by simpa [okR] using h), by simp [PyData.bulk, blk]; rfl⟩
  | .lst ds, 0, h => by simp [okR] at h
  | .lst ds, n + 1, h => by
    obtain ⟨xs, h1, h2, h3, h4, h5⟩ := okRs_pe ds n (by simpa [okR] using h)
    exact ⟨.list xs, by simp [D.pe, h1], by simpa [PyData.showable] using h2, by simp [PyData.depth]; omega, by simpa [PyData.leavesShort] using h4, by simp [PyData.bulk, blk, h5]⟩
  | .tup ds, 0, h => by simp [okR] at h
  | .tup ds, n + 1, h => by
    obtain ⟨xs, h1, h2, h3, h4, h5⟩ := okRs_pe ds n (by simpa [okR] using h)
    exact ⟨.tuple xs, by simp [D.pe, h1], by simpa [PyData.showable] using h2, by simp [PyData.depth]; omega, by simpa [PyData.leavesShort] using h4, by simp [PyData.bulk, blk, h5]⟩
  | .dk es, 0, h => by simp [okR] at h
  | .dk es, n + 1, h => by
    obtain ⟨xs, h1, h2, h3, h4, h5⟩ := okRk_pe es n (by simpa [okR] using h)
    exact ⟨.dict xs, by simp [D.pe, h1], by simpa [PyData.showable] using h2, by simp [PyData.depth]; omega, by simpa [PyData.leavesShort] using h4, by simp [PyData.bulk, blk, h5]⟩
  | .scr _, _, h => by simp [okR] at h
  | .ce _, _, h => by simp [okR] at h
theorem okRs_pe : ∀ (ds : List D) (n : Nat), okRs ds n = true → ∃ xs, peL ds = some xs ∧ PyData.showableAll xs = true ∧ PyData.depthAll xs ≤ n ∧ PyData.leavesShortAll 1922 xs = true ∧ PyData.bulkAll xs = blks ds
  | [], n, _ => ⟨[], by simp [peL], by simp [PyData.showableAll], by simp [PyData.depthAll], by simp [PyData.leavesShortAll], by simp [PyData.bulkAll, blks]⟩
  | d :: ds, n, h => by
    simp only [okRs, Bool.and_eq_true] at h
    obtain ⟨x, a1, a2, a3, a4, a5⟩ := okR_pe d n h.1
    obtain ⟨xs, b1, b2, b3, b4, b5⟩ := okRs_pe ds n h.2
    exact ⟨x :: xs, by simp [peL, a1, b1], by simp [PyData.showableAll, a2, b2], by simp [PyData.depthAll]; omega, by simp [PyData.leavesShortAll, a4, b4], by simp [PyData.bulkAll, blks, a5, b5]⟩
theorem okRk_pe : ∀ (es : List (Key × D)) (n : Nat), okRk es n = true → ∃ xs, peK es = some xs ∧ PyData.showableKv xs = true ∧ PyData.depthKv xs ≤ n ∧ PyData.leavesShortKv 1922 xs = true ∧ PyData.bulkKv xs = blkk es
  | [], n, _ => ⟨[], by simp [peK], by simp [PyData.showableKv], by simp [PyData.depthKv], by simp [PyData.leavesShortKv], by simp [PyData.bulkKv, blkk]⟩
  | (k, d) :: es, n, h => by
    simp only [okRk, Bool.and_eq_true] at h
    obtain ⟨c1, c2, c3, c4⟩ := okKey_dat h.1.1
    obtain ⟨x, a1, a2, a3, a4, a5⟩ := okR_pe d n h.1.2
    obtain ⟨xs, b1, b2, b3, b4, b5⟩ := okRk_pe es n h.2
    refine ⟨(datKey k, x) :: xs, ?_, by simp [PyData.showableKv, c1, a2, b2], by simp [PyData.depthKv, c2]; omega, by simp [PyData.leavesShortKv, c3, a4, b4], by simp [PyData.bulkKv, blkk, c4, a5, b5]⟩
    simp only [peK, a1, b1]
    cases k <;> rfl
end
/-- the text that repr tells of a tree -/
def shownE (d : D) : Str := match d.pe with | some x => x.shown | none => ""
theorem g_repr {C : AH} {P : D → AH → Prop} {d : D} (n : Nat) (h : okR d n = true) (hn : n ≤ 64) (hz : blk d ≤ 8000) (k : P (.str (shownE d)) C) : aRepr [d] C P := by
  obtain ⟨x, e, h1, h3, h4, h5⟩ := okR_pe d n h
  unfold shownE at k
  rw [e] at k
  refine .inl ⟨d, x, rfl, e, h1, by omega, ?_, k⟩
  have := PyData.shown_le_bulk 1922 (by decide) x h4
  rw [sizeLine_eq]
  rw [h5] at this
  omega
mutual
theorem okR_succ : ∀ (d : D) (n : Nat), okR d n = true → okR d (n + 1) = true
  | .non, _, _ => by simp [okR]
  | .bl _, _, _ => by simp [okR]
  | .int _, _, h => by simpa [okR] using h
  | .str _, _, h => by simpa [okR] using h
  | .lst ds, 0, h => by simp [okR] at h
  | .lst ds, n + 1, h => by
    simp only [okR] at h ⊢
    exact okRs_succ ds n h
  | .tup ds, 0, h => by simp [okR] at h
  | .tup ds, n + 1, h => by
    simp only [okR] at h ⊢
    exact okRs_succ ds n h
  | .dk es, 0, h => by simp [okR] at h
  | .dk es, n + 1, h => by
    simp only [okR] at h ⊢
    exact okRk_succ es n h
  | .scr _, _, h => by simp [okR] at h
  | .ce _, _, h => by simp [okR] at h
theorem okRs_succ : ∀ (ds : List D) (n : Nat), okRs ds n = true → okRs ds (n + 1) = true
  | [], _, _ => by simp [okRs]
  | d :: ds, n, h => by
    simp only [okRs, Bool.and_eq_true] at h ⊢
    exact ⟨okR_succ d n h.1, okRs_succ ds n h.2⟩
theorem okRk_succ : ∀ (ds : List (Key × D)) (n : Nat), okRk ds n = true → okRk ds (n + 1) = true
  | [], _, _ => by simp [okRk]
  | (k, d) :: ds, n, h => by
    simp only [okRk, Bool.and_eq_true] at h ⊢
    exact ⟨⟨h.1.1, okR_succ d n h.1.2⟩, okRk_succ ds n h.2⟩
end
theorem okR_mono {d : D} {n m : Nat} (h : okR d n = true) (hm : n ≤ m) : okR d m = true := by
  obtain ⟨k, rfl⟩ := Nat.le.dest hm
  clear hm
  induction k with
  | zero => exact h
  | succ k ih => exact okR_succ d _ ih
theorem blks_append : ∀ xs ys : List D, blks (xs ++ ys) = blks xs + blks ys
  | [], ys => by simp [blks]
  | x :: xs, ys => by simp [blks, blks_append xs ys]; omega
/-! flat rules -/
section
variable {X : Cx} {K : PySem.W.Frag}
/-- str(i) -/
def aStrI : ASp := fun ds C P => match ds with | [.int i] => i.natAbs.log2 < 1920 ∧ P (.str (toString i)) C | _ => False
theorem ac_strI : ACa B X (.type "str") (fun xs H Q => ∃ i, xs = [.int i] ∧ i.natAbs.log2 < 1920 ∧ Q (.str (toString i)) H) aStrI := ⟨call_str_int, by
  intro vs ds F C R H Q P hS r h k
  unfold aStrI at h
  split at h
  · cases r with | cons r1 r2 => cases r2; cases r1; exact ⟨_, rfl, h.1, k _ _ F C H (Ex.refl F) hS (.str _) h.2⟩
  · exact h.elim⟩
/-- x is True -/
def aIsB (neg : Bool) : D → D → AH → (D → AH → Prop) → Prop := fun x y C P => match x, y with | .bl a, .bl b => P (.bl (if neg then !decide (a = b) else decide (a = b))) C | _, _ => False
abbrev aIsBl := aIsB false
abbrev aNotBl := aIsB true
theorem ao_isB : AOp B X (compareOp .Is) rIsB aIsBl := ⟨op_isBl, by
  intro v w d e F C R H Q P hS r1 r2 h k
  unfold aIsBl aIsB at h
  split at h
  · cases r1; cases r2
    exact ⟨_, _, rfl, rfl, k _ _ F C H (Ex.refl F) hS (.bl _) h⟩
  · exact h.elim⟩
theorem ao_isnotB : AOp B X (compareOp .IsNot) rNotB aNotBl := ⟨op_notBl, by
  intro v w d e F C R H Q P hS r1 r2 h k
  unfold aNotBl aIsB at h
  split at h
  · cases r1; cases r2
    exact ⟨_, _, rfl, rfl, k _ _ F C H (Ex.refl F) hS (.bl _) h⟩
  · exact h.elim⟩
/-- a dict that is written, and never changed -/
def aDispF (l : List (Key × AE')) : AE' := fun s C P => aPairs l s C fun es C1 => es.length ≤ 15 ∧ P (.dk (mergeD [] es)) C1
theorem sim_dispF {trs : List (TE × TE)} {l : List (Key × AE')} (h : SimPs B K trs l) : SimE B K (tDisp trs) (aDispF l) := by
  intro σ s F C R H Q P hs hS h0 k p hp
  have hF := hS.freeF hp
  have hC := hS.freeC hp
  have hR := hS.freeR hp
  refine h σ s F C (upd R p (.dK [])) (upd H p (.dK [])) _ _ hs (hS.setR hF hC (hS.freeB hR) _) h0 fun es kvs F1 C1 H1 e1 S1 r1 h1 => ?_
  obtain ⟨h15, h1⟩ := h1
  obtain ⟨f1, c1, g1⟩ := S1.priv p _ upd_same
  refine ⟨g1, kvs, rfl, by rw [r1.length]; exact h15, ?_⟩
  have S2 := S1.setR f1 c1 (hS.freeB hR) (.dK (mergeK [] kvs))
  rw [upd_upd] at S2
  have eN := Ex.new (o := .dK (mergeK [] kvs)) f1
  exact k _ _ _ C1 _ (e1.trans eN) (S2.outF hR (hS.freeB hR)) (.dk upd_same ((RepK.merge r1 .nil).mono eN)) h1
theorem ae_dispF {pos : Pos} {keys : List (Option Expr)} {vals : List Expr} {trs : List (TE × TE)} {l : List (Key × AE')} (h : APs B X pos keys vals trs l) (hall : keys.all (·.isSome) = true := by rfl) (hl : keys.length = vals.length := by rfl) (h0 : keys ≠ [] := by simp) (h15 : keys.length ≤ 15 := by decide) : AE B X (.Dict keys vals pos) (tDisp trs) (aDispF l) :=
  ⟨pe_disp h.pps hall hl h0 h15, sim_dispF h.sim⟩
def aDict0F : AE' := fun _ C P => P (.dk []) C
theorem ae_dict0F {pos : Pos} : AE B X (.Dict [] [] pos) tDNewK aDict0F := ⟨pe_dnewK, fun σ s F C R H Q P hs hS h k p hp => by
  have eN := Ex.new (o := .dK []) (hS.freeF hp)
  exact k _ _ _ C _ eN (hS.newF hp _) (.dk upd_same .nil) h⟩
/-! several targets, also places of lists -/
theorem sim_gnil : SimGs B K gNil aGNil := fun vs ds σ s F C R H Q P hs hS r h k => by
  unfold aGNil at h
  split at h
  · cases r
    exact ⟨rfl, k s σ F C H (Ex.refl F) hs hS h⟩
  · exact h.elim
theorem sim_gcons {g : TG} {r : TGs} {a : AG'} {b : AGs'} (h1 : SimG B K g a) (h2 : SimGs B K r b) : SimGs B K (gCons g r) (aGCons a b) := fun vs ds σ s F C R H Q P hs hS rr h k => by
  unfold aGCons at h
  split at h
  · cases rr with
    | cons r1 r2 =>
      refine ⟨_, _, rfl, ?_⟩
      refine h1 _ _ σ s F C R H _ _ hs hS r1 h fun s1 σ1 F1 C1 H1 e1 hs1 S1 q1 => ?_
      exact h2 _ _ σ1 s1 F1 C1 R H1 Q P hs1 S1 (r2.mono e1) q1 fun s2 σ2 F2 C2 H2 e2 => k s2 σ2 F2 C2 H2 (e1.trans e2)
  · exact h.elim
theorem sim_gtup {n : Nat} {t : TGs} {a : AGs'} (h : SimGs B K t a) : SimG B K (gTup K n t) (aGTup n a) := fun v d σ s F C R H Q P hs hS r h0 kk => by
  unfold aGTup at h0
  split at h0
  · cases r with
    | tup e q => exact ⟨_, _, rfl, SqT.of (hS.ex _ _ e), by rw [q.length]; exact h0.1, h _ _ σ s F C R H Q P hs hS q h0.2 kk⟩
  · exact h0.elim
/-- xs[i], ys[j] = e -/
theorem as_set2 {o i o2 i2 e : Expr} {to ti to2 ti2 te : TE} {ao ai ao2 ai2 a : AE'} {p1 p2 p3 pos : Pos} {kk : Nat} (h : AE B X e te a) (ho : AE B X o to ao) (hi : AE B X i ti ai) (ho2 : AE B X o2 to2 ao2) (hi2 : AE B X i2 ti2 ai2) (hc : X.calm = true := by rfl)
    (hs : swapsWithSole [.Tuple [.Subscript o i p1, .Subscript o2 i2 p2] kk p3] e pos.line X.env = pure false := by rfl) (hw : swappedStores [.Tuple [.Subscript o i p1, .Subscript o2 i2 p2] kk p3] e X.env = pure none := by rfl)
    (h1 : (assignEach [.Tuple [.Subscript o i p1, .Subscript o2 i2 p2] kk p3] X.env).map (·.2) = [assign (.Tuple [.Subscript o i p1, .Subscript o2 i2 p2] kk p3) X.env] := by rfl)
    (hn : (assignEach [.Subscript o i p1, .Subscript o2 i2 p2] X.env).length = 2 := by rfl) (hst : (assignEach [.Subscript o i p1, .Subscript o2 i2 p2] X.env).findIdx? (·.1) = none := by rfl)
    (hs1 : (assignEach [.Subscript o i p1, .Subscript o2 i2 p2] X.env).map (·.2) = assign (.Subscript o i p1) X.env :: (assignEach [.Subscript o2 i2 p2] X.env).map (·.2) := by rfl) (hs2 : (assignEach [.Subscript o2 i2 p2] X.env).map (·.2) = assign (.Subscript o2 i2 p2) X.env :: (assignEach [] X.env).map (·.2) := by rfl)
    (ha : ∀ v, assign (.Subscript o i p1) X.env v = (do
      let ov ← holding [v] (eval o X.env)
      let iv ← holding [v, ov] (eval i X.env)
      standAt p1
      holding [v, ov, iv] (setItem ov iv v)
      release [v, ov, iv] []) := by intro _; rfl)
    (ha2 : ∀ v, assign (.Subscript o2 i2 p2) X.env v = (do
      let ov ← holding [v] (eval o2 X.env)
      let iv ← holding [v, ov] (eval i2 X.env)
      standAt p2
      holding [v, ov, iv] (setItem ov iv v)
      release [v, ov, iv] []) := by intro _; rfl) (hK : X.K = K := by rfl) :
    AS B X (.Assign [.Tuple [.Subscript o i p1, .Subscript o2 i2 p2] kk p3] e pos) (tAsg te (gTup K 2 (gCons (gSub to ti rSetL) (gCons (gSub to2 ti2 rSetL) gNil)))) (aAsg a (aGTup 2 (aGCons (aGSet ao ai) (aGCons (aGSet ao2 ai2) aGNil)))) := by
  subst hK
  exact ⟨ps_asg h.pe (pg_tup hc (pgs_cons (pg_sub ho.pe hi.pe set_list ha) (pgs_cons (pg_sub ho2.pe hi2.pe set_list ha2) pgs_nil hs2) hs1) hn hst) hs hw h1,
    sim_asg h.sim (sim_gtup (sim_gcons (sim_set ho.sim hi.sim) (sim_gcons (sim_set ho2.sim hi2.sim) sim_gnil)))⟩
end
end AL

namespace AL
open PySem PySem.Spec PyProof.Rows L2
variable {B : Bs}
/-! ### a list of cells that are changed no more -/
def frzC (C : AH) (p : Addr) : Option Cell → D × AH
  | some (.lst us) => (.lst us, del C p)
  | some (.dk es) => (.dk es, del C p)
  | _ => (.ce p, C)
def frz1 (C : AH) : D → D × AH
  | .ce p => frzC C p (C p)
  | d => (d, C)
def frzL (C : AH) : List D → List D × AH
  | [] => ([], C)
  | d :: ds => ((frz1 C d).1 :: (frzL (frz1 C d).2 ds).1, (frzL (frz1 C d).2 ds).2)
section
variable {K : PySem.W.Frag}
theorem frz1_ce {C : AH} {p : Addr} {c : Option Cell} (e : C p = c) : frz1 C (.ce p) = frzC C p c := by
  show frzC C p (C p) = _
  rw [e]
theorem frz1_ok {F : Hp} {C : AH} {R H : Hp} (hS : Sat B K F C R H) (d : D) : ∃ F', Ex F F' ∧ Sat B K F' (frz1 C d).2 R H ∧ ∀ F'', Ex F' F'' → ∀ v, Rep K F'' v d → Rep K F'' v (frz1 C d).1 := by
  have same : ∃ F', Ex F F' ∧ Sat B K F' C R H ∧ ∀ F'', Ex F' F'' → ∀ v, Rep K F'' v d → Rep K F'' v d := ⟨F, Ex.refl F, hS, fun _ _ _ h => h⟩
  cases d with
  | ce p =>
    cases e : C p with
    | none =>
      rw [frz1_ce e]; exact same
    | some c =>
      rw [frz1_ce e]
      obtain ⟨hF, o, h1, h2⟩ := hS.cell p _ e
      cases c with
      | lst us =>
        refine ⟨upd F p o, Ex.new hF, hS.freeze e h1, fun F2 e2 v r => ?_⟩
        cases r
        cases h2 with
        | lst q => exact .lst (e2 _ _ upd_same) (q.mono ((Ex.new hF).trans e2))
      | dk us =>
        refine ⟨upd F p o, Ex.new hF, hS.freeze e h1, fun F2 e2 v r => ?_⟩
        cases r
        cases h2 with
        | dk q => exact .dk (e2 _ _ upd_same) (q.mono ((Ex.new hF).trans e2))
      | dt us => exact same
  | _ => exact same
theorem frzL_ok : ∀ (ds : List D) {F : Hp} {C : AH} {R H : Hp}, Sat B K F C R H → ∃ F', Ex F F' ∧ Sat B K F' (frzL C ds).2 R H ∧ ∀ F'', Ex F' F'' → ∀ vs, RepL K F'' vs ds → RepL K F'' vs (frzL C ds).1
  | [], F, _, _, _, hS => ⟨F, Ex.refl F, hS, fun _ _ _ h => h⟩
  | d :: ds, F, C, R, H, hS => by
    obtain ⟨F1, e1, S1, r1⟩ := frz1_ok hS d
    obtain ⟨F2, e2, S2, r2⟩ := frzL_ok ds S1
    refine ⟨F2, e1.trans e2, S2, fun F3 e3 vs h => ?_⟩
    cases h with
    | cons a b => exact .cons (r1 F3 (e2.trans e3) _ a) (r2 F3 e3 _ b)
/-- the cells in the list of a slot -/
def aFrzIn (i : Nat) (a : AS') : AS' := fun E s C => match s[i]? with
  | some (some (.lst ds)) => a E (s.set i (some (.lst (frzL C ds).1))) (frzL C ds).2
  | _ => False
theorem sim_frzIn {t : TS} {a : AS'} (i : Nat) (h : SimS B K t a) : SimS B K t (aFrzIn i a) := fun D' E σ s F C R H hE hs hS h0 => by
  unfold aFrzIn at h0
  split at h0
  · rename_i ds e
    obtain ⟨F1, e1, S1, r1⟩ := frzL_ok ds hS
    refine h D' E σ _ F1 _ R H (hE.mono e1) ((hs.mono e1).reset e fun v r => ?_) S1 h0
    cases r with
    | lst q1 q2 => exact .lst q1 (r1 F1 (Ex.refl F1) _ q2)
  · exact h0.elim
theorem ass_frzIn {X : Cx} {sts : List Stmt} {t : TS} {a : AS'} (i : Nat) (h : ASs B X sts t a) : ASs B X sts t (aFrzIn i a) := ⟨h.ps, sim_frzIn i h.sim⟩
end
/-! cells that are unlike -/
theorem frzL_lists {C : AH} : ∀ (qs : List Addr) (us : List (List D)), us.length = qs.length → qs.Nodup → (∀ (i : Nat) q u, qs[i]? = some q → us[i]? = some u → C q = some (.lst u)) →
    (frzL C (qs.map D.ce)).1 = us.map D.lst ∧ (∀ p, p ∉ qs → (frzL C (qs.map D.ce)).2 p = C p) ∧ ∀ p, p ∈ qs → (frzL C (qs.map D.ce)).2 p = none := by
  intro qs
  induction qs generalizing C with
  | nil =>
    intro us hl _ _
    cases us with
    | nil => exact ⟨rfl, fun _ _ => rfl, fun _ h => by cases h⟩
    | cons _ _ => cases hl
  | cons q qs ih =>
    intro us hl hn h
    cases us with
    | nil => cases hl
    | cons u us =>
      have h0 := h 0 q u rfl rfl
      have hn1 := (List.nodup_cons.mp hn)
      have e1 : frz1 C (.ce q) = (.lst u, del C q) := frz1_ce h0
      have st := ih (C := del C q) us (by simpa using hl) hn1.2 fun i r w hr hw => by
        refine (del_other ?_ (h (i + 1) r w (by simpa using hr) (by simpa using hw)))
        intro z
        exact hn1.1 (z ▸ List.mem_of_getElem? hr)
      obtain ⟨s1, s2, s3⟩ := st
      have u1 : (frzL C (D.ce q :: qs.map D.ce)).1 = .lst u :: (frzL (del C q) (qs.map D.ce)).1 := by show (frz1 C (.ce q)).1 :: (frzL (frz1 C (.ce q)).2 _).1 = _; rw [e1]
      have u2 : (frzL C (D.ce q :: qs.map D.ce)).2 = (frzL (del C q) (qs.map D.ce)).2 := by show (frzL (frz1 C (.ce q)).2 _).2 = _; rw [e1]
      refine ⟨by rw [List.map_cons, u1, s1]; rfl, fun p hp => ?_, fun p hp => ?_⟩
      · rw [List.map_cons, u2, s2 p (fun z => hp (List.mem_cons_of_mem _ z))]
        unfold del
        rw [if_neg (fun z => hp (by rw [z]; exact List.mem_cons_self ..))]
      · rw [List.map_cons, u2]
        by_cases hq : p ∈ qs
        · exact s3 p hq
        · rw [s2 p hq]
          rcases List.mem_cons.mp hp with z | z
          · subst z; exact del_same
          · exact absurd z hq
theorem g_frzIn {a : AS'} {E : AEnds} {s : ASt} {C : AH} {i : Nat} {ds : List D} (h0 : s[i]? = some (some (.lst ds))) (h : a E (s.set i (some (.lst (frzL C ds).1))) (frzL C ds).2) : aFrzIn i a E s C := by
  unfold aFrzIn
  rw [h0]
  exact h
end AL

namespace AL
open PySem PySem.Spec PyProof.Rows L2
variable {B : Bs}
section
variable {X : Cx} {K : PySem.W.Frag}
/-! ### a text, so many times -/
def timesL (x : Str) (n : Nat) : Str := ⟨(List.replicate n x.cps).foldl (· ++ ·) #[]⟩
theorem timesF_toList (l : List (Array Nat)) : ∀ acc : Array Nat, (l.foldl (· ++ ·) acc).toList = acc.toList ++ (l.map Array.toList).flatten := by
  induction l with
  | nil => intro acc; simp
  | cons a l ih => intro acc; simp [ih]
theorem timesL_toList (x : Str) (n : Nat) : (timesL x n).cps.toList = (List.replicate n x.cps.toList).flatten := by
  unfold timesL
  rw [timesF_toList]
  simp
theorem timesL_len (x : Str) (n : Nat) : (timesL x n).length = n * x.length := by
  show (timesL x n).cps.size = _
  rw [← Array.length_toList, timesL_toList, List.length_flatten, List.map_replicate]
  simp
  rfl
theorem timesL_one (x : Str) : timesL x 1 = x := by
  have : (timesL x 1).cps.toList = x.cps.toList := by rw [timesL_toList]; simp
  cases x with
  | mk c =>
    have := Array.toList_inj.mp this
    show Str.mk _ = _
    exact congrArg Str.mk this
def rMulS : R2 := fun x y H Q => ∃ z n, x = .str z ∧ y = .int n ∧ -1000000 ≤ n ∧ n ≤ 1000000 ∧ z.length * n.toNat ≤ 16000000 ∧ Q (.str (timesL z n.toNat)) H
theorem op_mulS : OpR X (binaryOp .Mult) rMulS := by
  intro pins s σ H x y v u Q I rx ry h
  obtain ⟨z, n, rfl, rfl, h1, h2, h3, q⟩ := h
  obtain ⟨t, rfl⟩ := rx
  obtain ⟨t2, rfl⟩ := ry
  have fin : ∀ (tk t3 : Tok) (y : Str), y = timesL z n.toNat → EP X pins σ Q (.str y t3) { s with toks := tk } := fun tk t3 y e => ⟨.str _, H, I.tok _, ⟨_, rfl⟩, by rw [e]; exact q⟩
  refine P.mul_str ?_ (fun a _ => ?_) (fun a _ => ?_) ?_
  · rw [decide_eq_false (by omega), decide_eq_false (by omega)]; rfl
  · have hl : z.length ≤ z.length * n.toNat := Nat.le_mul_of_pos_right _ (by omega)
    have e : (2 ^ 63 - 1) / (1000000 : Int) ≤ (2 ^ 63 - 1) / n := by
      refine (Int.le_ediv_iff_mul_le (by omega)).mpr ?_
      have : (2 ^ 63 - 1) / (1000000 : Int) * n ≤ (2 ^ 63 - 1) / (1000000 : Int) * 1000000 := Int.mul_le_mul_of_nonneg_left h2 (by decide)
      have : (2 ^ 63 - 1) / (1000000 : Int) * 1000000 ≤ 2 ^ 63 - 1 := by decide
      omega
    have e2 : (16000000 : Int) ≤ (2 ^ 63 - 1) / (1000000 : Int) := by decide
    omega
  · unfold Builtin.Str.tooLong
    rw [decide_eq_false_iff_not, sizeLine_eq]
    omega
  · split
    · rename_i a
      refine ⟨by decide, fin _ _ _ ?_⟩
      rw [show n.toNat = 0 by omega]
      rfl
    · rename_i a
      split
      · rename_i b
        refine fin _ _ _ ?_
        simp only [Bool.or_eq_true, beq_iff_eq] at b
        rcases b with b | b
        · subst b; exact (timesL_one z).symm
        · have e : (timesL z n.toNat).length = 0 := by rw [timesL_len, b, Nat.mul_zero]
          cases z with
          | mk c =>
            have c0 : c = #[] := Array.eq_empty_of_size_eq_zero b
            have d0 : (timesL ⟨c⟩ n.toNat).cps = #[] := Array.eq_empty_of_size_eq_zero e
            show Str.mk c = timesL ⟨c⟩ n.toNat
            rw [c0] at d0 ⊢
            exact congrArg Str.mk d0.symm
      · refine ⟨?_, fin _ _ _ rfl⟩
        show (timesL z n.toNat).length ≤ sizeLine
        rw [timesL_len, sizeLine_eq, Nat.mul_comm]
        omega
def aMulS : D → D → AH → (D → AH → Prop) → Prop := fun x y C P => match x, y with
  | .str z, .int n => -1000000 ≤ n ∧ n ≤ 1000000 ∧ z.length * n.toNat ≤ 16000000 ∧ P (.str (timesL z n.toNat)) C
  | _, _ => False
theorem ao_mulS : AOp B X (binaryOp .Mult) rMulS aMulS := ⟨op_mulS, by
  intro v w d e F C R H Q P hS r1 r2 h k
  unfold aMulS at h
  split at h
  · cases r1; cases r2
    exact ⟨_, _, rfl, rfl, h.1, h.2.1, h.2.2.1, k _ _ F C H (Ex.refl F) hS (.str _) h.2.2.2⟩
  · exact h.elim⟩
theorem g_mulS {C : AH} {P : D → AH → Prop} {z : Str} {n : Nat} (h1 : n ≤ 1000000) (h2 : z.length * n ≤ 16000000) (h : P (.str (timesL z n)) C) : aMulS (.str z) (.int n) C P := ⟨by omega, by omega, h2, h⟩
end
end AL

namespace AL
open PySem PySem.Spec PyProof.Rows L2
variable {B : Bs}
/-! ### what is walked by enumerate, by zip: a list, a tuple, a text -/
inductive Src where
  | ls (a : Addr) | tp (a : Addr) | tx (z : Str)
def Src.holds (K : PySem.W.Frag) (H : Hp) : Src → List V → Prop
  | .ls a, xs => SqL K H a xs
  | .tp a, xs => SqT K H a xs
  | .tx z, xs => xs = signsV z
def Src.v : Src → V
  | .ls a => .ref a
  | .tp a => .ref a
  | .tx z => .str z
/-- the iterator at it, i items taken -/
def Src.iter (h : Heap) (it : Addr) (i : Nat) : Src → Prop
  | .ls a => h.IsListIter it a i
  | .tp a => h.IsTupleIter it a i
  | .tx z => ∃ t, h.IsStrIter it (strIterType z) z t i
def Src.ref : Src → Option Addr
  | .ls a => some a
  | .tp a => some a
  | .tx _ => none
theorem Src.iter_at {h h' : Heap} {it : Addr} {i : Nat} : ∀ {x : Src}, x.iter h it i → (∀ o, h.get? it = some o → h'.get? it = some o) → x.iter h' it i
  | .ls a, st, k => st.at k
  | .tp a, st, k => st.at k
  | .tx z, ⟨t, o, e, c, d⟩, k => ⟨t, o, k _ e, c, d⟩
theorem Src.iter_obj {h : Heap} {it : Addr} {i : Nat} : ∀ {x : Src}, x.iter h it i → ∃ o, h.get? it = some o ∧ ∀ v, o.data ≠ .cell v
  | .ls a, ⟨o, e, _, d⟩ => ⟨o, e, fun v q => by rw [d] at q; cases q⟩
  | .tp a, ⟨o, e, _, d⟩ => ⟨o, e, fun v q => by rw [d] at q; cases q⟩
  | .tx z, ⟨t, o, e, _, d⟩ => ⟨o, e, fun v q => by rw [d] at q; cases q⟩
section
variable {X : Cx} {pins : List (Addr × Obj)} {σ : L2.St} {H : Hp} {s : Shared}
theorem vals_back : ∀ {xs : List V} {us : List Value} {i : Nat} {u : Value}, Vals xs us → us[i]? = some u → ∃ x, xs[i]? = some x ∧ RelV x u
  | _, _, _, _, .nil, e => by simp at e
  | _, _, 0, _, .cons r _, e => by simp at e; subst e; exact ⟨_, rfl, r⟩
  | _, _, i + 1, u, .cons _ t, e => by
    obtain ⟨x, h1, h2⟩ := vals_back (i := i) (u := u) t (by simpa using e)
    exact ⟨x, by simpa using h1, h2⟩
theorem Src.inj (I : Inv X pins σ H s) : ∀ {x : Src} {xs ys : List V}, x.holds X.K H xs → x.holds X.K H ys → xs = ys
  | .ls a, _, _, h, g => I.list_inj h g
  | .tp a, _, _, h, g => I.tuple_inj h g
  | .tx z, _, _, h, g => h.trans g.symm
/-- one step's draws -/
structure Drw (X : Cx) (A : Around) (x : Src) (xs : List V) (it : Addr) (fp : List Addr) (P : Nat → Value → Prop) (St : Nat → Heap → Prop) : Prop where
  D : Draws X.prog X.w A it fp xs.length P St
  val : ∀ i u, P i u → ∃ v, xs[i]? = some v ∧ RelV v u
  back : ∀ i h, St i h → x.iter h it i
  mem : it ∈ fp
  low : ∀ h i, St i h → ∀ b ∈ fp, b < h.objs.size
  sub : ∀ b ∈ fp, b = it ∨ x.ref = some b
theorem Src.drw (I : Inv X pins σ H s) {A : Around} (hh : A.handled = none) {it : Addr} {i : Nat} : ∀ {x : Src} {xs : List V}, x.holds X.K H xs → x.iter s.heap it i → x.ref ≠ some it → ∃ fp P St, Drw X A x xs it fp P St ∧ St i s.heap
  | .ls a, xs, h, st, hn => by
    obtain ⟨its, rv, p, _⟩ := I.list h
    have l := rv.length
    have hne : a ≠ it := fun z => hn (by rw [z]; rfl)
    have D := Draws.list (prog := X.prog) (w := X.w) hh it a hne its.toArray
    rw [show its.toArray.size = xs.length by simpa using l.symm] at D
    refine ⟨_, _, _, ⟨D, fun j u hu => ?_, fun j h st => st.1, by simp, fun h j st b hb => ?_, fun b hb => ?_⟩, st, p.isList⟩
    · obtain ⟨v, h1, h2⟩ := vals_back rv (by simpa using hu)
      exact ⟨v, h1, h2⟩
    · have e : b = it ∨ b = a := by simpa using hb
      obtain ⟨⟨o, e1, _⟩, ⟨o2, e2, _⟩⟩ := st
      rcases e with z | z
      · rw [z]; exact Heap.lt_size e1
      · rw [z]; exact Heap.lt_size e2
    · have e : b = it ∨ b = a := by simpa using hb
      exact e.imp id fun z => by rw [z]; rfl
  | .tp a, xs, h, st, hn => by
    obtain ⟨its, rv, p, _⟩ := I.tuple h
    have l := rv.length
    have hne : a ≠ it := fun z => hn (by rw [z]; rfl)
    have D := Draws.tuple (prog := X.prog) (w := X.w) hh it a hne its.toArray
    rw [show its.toArray.size = xs.length by simpa using l.symm] at D
    refine ⟨_, _, _, ⟨D, fun j u hu => ?_, fun j h st => st.1, by simp, fun h j st b hb => ?_, fun b hb => ?_⟩, st, p⟩
    · obtain ⟨v, h1, h2⟩ := vals_back rv (by simpa using hu)
      exact ⟨v, h1, h2⟩
    · have e : b = it ∨ b = a := by simpa using hb
      obtain ⟨⟨o, e1, _⟩, ⟨o2, e2, _⟩⟩ := st
      rcases e with z | z
      · rw [z]; exact Heap.lt_size e1
      · rw [z]; exact Heap.lt_size e2
    · have e : b = it ∨ b = a := by simpa using hb
      exact e.imp id fun z => by rw [z]; rfl
  | .tx z, xs, h, ⟨t, st⟩, hn => by
    have h : xs = signsV z := h
    have D := Draws.text (prog := X.prog) (w := X.w) hh it z t
    have l : xs.length = z.cps.size := by rw [h]; unfold signsV; rw [List.length_map, Array.length_toList]
    rw [← l] at D
    refine ⟨_, _, _, ⟨D, fun j u hu => ?_, fun j h st => ⟨t, st⟩, by simp, fun h j st b hb => ?_, fun b hb => .inl (by simpa using hb)⟩, st⟩
    · obtain ⟨c, t2, hc, rfl⟩ := hu
      refine ⟨.str ⟨#[c]⟩, ?_, t2, rfl⟩
      rw [h]
      unfold signsV
      rw [List.getElem?_map, Array.getElem?_toList, hc]
      rfl
    · have e : b = it := by simpa using hb
      obtain ⟨o, e1, _⟩ := st
      rw [e]; exact Heap.lt_size e1
/-! zip -/
def ItzG (K : PySem.W.Frag) (a b : Src) : It :=
  ⟨fun i H => ∃ (xs ys : List V) (x y : V), a.holds K H xs ∧ b.holds K H ys ∧ xs[i]? = some x ∧ ys[i]? = some y,
    fun i H v H' => ∃ T x y, v = .ref T ∧ H T = none ∧ H' = upd H T (.tup [x, y]) ∧ (∀ xs, a.holds K H xs → xs[i]? = some x) ∧ ∀ ys, b.holds K H ys → ys[i]? = some y,
    fun i H => ∃ xs ys : List V, a.holds K H xs ∧ b.holds K H ys ∧ i = min xs.length ys.length⟩
structure ZApart (a b : Src) (z TI TO i1 i2 : Addr) : Prop where
  TIz : TI ≠ z
  TOz : TO ≠ z
  TITO : TI ≠ TO
  TIi1 : TI ≠ i1
  TIi2 : TI ≠ i2
  TOi1 : TO ≠ i1
  TOi2 : TO ≠ i2
  zi1 : z ≠ i1
  zi2 : z ≠ i2
  i12 : i1 ≠ i2
  ra : ∀ c ∈ [z, TI, TO, i1, i2], a.ref ≠ some c
  rb : ∀ c ∈ [z, TI, TO, i1, i2], b.ref ≠ some c
theorem sep_of {a b : Src} {z TI TO i1 i2 : Addr} {fp1 fp2 : List Addr} (Z : ZApart a b z TI TO i1 i2) (m1 : i1 ∈ fp1) (m2 : i2 ∈ fp2) (s1 : ∀ c ∈ fp1, c = i1 ∨ a.ref = some c) (s2 : ∀ c ∈ fp2, c = i2 ∨ b.ref = some c) : ZipSep2 z TI TO i1 i2 fp1 fp2 :=
  { TIz := Z.TIz, TOz := Z.TOz, TITO := Z.TITO, TIi1 := Z.TIi1, mem1 := m1, TIi2 := Z.TIi2, mem2 := m2,
    zf1 := fun h => (s1 _ h).elim Z.zi1 (Z.ra z (by simp)), Tf1 := fun h => (s1 _ h).elim Z.TOi1 (Z.ra TO (by simp)),
    zf2 := fun h => (s2 _ h).elim Z.zi2 (Z.rb z (by simp)), Tf2 := fun h => (s2 _ h).elim Z.TOi2 (Z.rb TO (by simp)),
    sep1_2 := fun h => (s2 _ h).elim Z.i12 (Z.rb i1 (by simp)), sep2_1 := fun h => (s1 _ h).elim (fun e => Z.i12 e.symm) (Z.ra i2 (by simp)) }
theorem turn_zipG {P : Program} {w : World} {K : PySem.W.Frag} {elts : List Expr} {kk : Nat} {tpos : Pos} {a b : Src} {z TI TO i1 i2 : Addr} (Z : ZApart a b z TI TO i1 i2) :
    Turn P w K (.Tuple elts kk tpos) (ItzG K a b) [z, TI, TO, i1, i2] z (fun i h => IsZip h z TI TO .none ∧ IsTupOf2 h TI (.ref i1) (.ref i2) ∧ (∃ x y, IsTupOf2 h TO x y) ∧ a.iter h i1 i ∧ b.iter h i2 i) where
  mem := by simp
  obj := fun i h st c hc => by
    obtain ⟨hz, hTI, ⟨x, y, hTO⟩, h1, h2⟩ := st
    simp only [List.mem_cons, List.not_mem_nil, or_false] at hc
    rcases hc with q | q | q | q | q <;> rw [q]
    · exact ⟨_, hz, fun v q => nomatch q⟩
    · exact ⟨_, hTI, fun v q => nomatch q⟩
    · exact ⟨_, hTO, fun v q => nomatch q⟩
    · exact Src.iter_obj h1
    · exact Src.iter_obj h2
  keep := fun i h h' st k => by
    obtain ⟨hz, hTI, ⟨x, y, hTO⟩, h1, h2⟩ := st
    exact ⟨k z (by simp) _ hz, k TI (by simp) _ hTI, ⟨x, y, k TO (by simp) _ hTO⟩, Src.iter_at h1 fun o q => k i1 (by simp) o q, Src.iter_at h2 fun o q => k i2 (by simp) o q⟩
  item := by
    intro X hP hw hK hc i pins s σ H E I hf st hg
    subst hP hw hK
    obtain ⟨hz, hTI, hTO, h1, h2⟩ := st
    obtain ⟨xs, ys, x, y, hqx, hqy, hx, hy⟩ := hg
    have hh : X.A.in1.handled = none := I.ok.hd hc
    obtain ⟨fp1, P1, St1, D1, st1⟩ := Src.drw I hh hqx h1 (Z.ra i1 (by simp))
    obtain ⟨fp2, P2, St2, D2, st2⟩ := Src.drw I hh hqy h2 (Z.rb i2 (by simp))
    have G := GoesN.zip2 (elts := elts) (x1 := kk) (pos := tpos) (sep_of Z D1.mem D2.mem D1.sub D2.sub) D1.D D2.D
    have lx := (List.getElem?_eq_some_iff.mp hx).1
    have ly := (List.getElem?_eq_some_iff.mp hy).1
    refine wpAny_mono (G.goes i s (fun v s2 => ∃ x H', Inv X pins σ H' s2 ∧ RelV x v ∧ (ItzG X.K a b).yld i H x H' ∧ (IsZip s2.heap z TI TO .none ∧ IsTupOf2 s2.heap TI (.ref i1) (.ref i2) ∧ (∃ x y, IsTupOf2 s2.heap TO x y) ∧ a.iter s2.heap i1 (i + 1) ∧ b.iter s2.heap i2 (i + 1)) ∧ ∀ b ∈ [z, TI, TO, i1, i2], H' b = none) E (by omega) ⟨hz, hTI, hTO, st1, st2⟩ fun v h' tk Y St' keep _ => ?_) (fun r s1 h => ?_) (fun _ _ h => h)
    · obtain ⟨T, u1, u2, rfl, hT, p1, p2, tT⟩ := Y
      obtain ⟨v1, e1, r1⟩ := D1.val i u1 p1
      obtain ⟨v2, e2, r2⟩ := D2.val i u2 p2
      obtain ⟨o, ho, hcl, n, hd⟩ := id tT
      have new : ObjOk X.prog X.w (upd H T (.tup [v1, v2])) h' T (.tup [v1, v2]) := ⟨by show 2 ≤ sizeLine; decide, [u1, u2], .cons r1 (.cons r2 .nil), ⟨o, ho, hcl, n, hd⟩⟩
      have I1 : Inv X pins σ (upd H T (.tup [v1, v2])) { s with heap := h', toks := tk } :=
        I.turnedNew (ch := [z, TI, TO, i1, i2]) (fun c o hb q => keep c o (fun hm => hb (by simp only [List.mem_cons, List.not_mem_nil, or_false] at hm ⊢; rcases hm with q | q | q | q <;> simp [q])) q) hf hT new
      obtain ⟨a1, a2, a3, a4, a5⟩ := St'
      refine ⟨.ref T, _, I1, rfl, ⟨T, v1, v2, rfl, I.hok.fresh hT, rfl, fun l hl => by rw [Src.inj I hl hqx]; exact e1, fun l hl => by rw [Src.inj I hl hqy]; exact e2⟩, ⟨a1, a2, a3, D1.back _ _ a4, D2.back _ _ a5⟩, fun c hcm => ?_⟩
      have hlt : c < s.heap.objs.size := by
        obtain ⟨x0, y0, hTO⟩ := hTO
        simp only [List.mem_cons, List.not_mem_nil, or_false] at hcm
        rcases hcm with q | q | q | q | q <;> rw [q]
        · exact Heap.lt_size hz
        · exact Heap.lt_size hTI
        · exact Heap.lt_size hTO
        · exact D1.low _ _ st1 _ D1.mem
        · exact D2.low _ _ st2 _ D2.mem
      rw [upd_ne (Nat.ne_of_lt (Nat.lt_of_lt_of_le hlt hT))]
      exact (hf c hcm).1
    · obtain ⟨v, e, q⟩ := h
      exact ⟨v, e, q⟩
  done := by
    intro X hP hw hK hc i pins s σ H E I hf st hg
    subst hP hw hK
    obtain ⟨hz, hTI, hTO, h1, h2⟩ := st
    obtain ⟨xs, ys, hqx, hqy, hend⟩ := hg
    have hh : X.A.in1.handled = none := I.ok.hd hc
    obtain ⟨fp1, P1, St1, D1, st1⟩ := Src.drw I hh hqx h1 (Z.ra i1 (by simp))
    obtain ⟨fp2, P2, St2, D2, st2⟩ := Src.drw I hh hqy h2 (Z.rb i2 (by simp))
    have G := GoesN.zip2 (elts := elts) (x1 := kk) (pos := tpos) (sep_of Z D1.mem D2.mem D1.sub D2.sub) D1.D D2.D
    subst hend
    exact G.stops s _ E ⟨hz, hTI, hTO, st1, st2⟩ fun h' tk keep _ => I.turnedL (ch := [z, TI, TO, i1, i2]) (fun c o hb q => keep c o (fun hm => hb (by simp only [List.mem_cons, List.not_mem_nil, or_false] at hm ⊢; rcases hm with q | q | q | q <;> simp [q])) q) hf
  self := fun A i s Q E st h => wpAny_pyIter_zip st.1 h
/-- how a source's iterator begins -/
theorem Src.begins (I : Inv X pins σ H s) : ∀ {x : Src} {xs : List V} {u : Value}, x.holds X.K H xs → RelV x.v u → ∃ o Hh, Begins u o Hh ∧ Hh s.heap ∧ ∀ (h : Heap) (it : Addr), h.get? it = some o → x.iter h it 0
  | .ls a, xs, u, h, r => by
    cases r
    obtain ⟨its, rv, p, _⟩ := I.list h
    exact ⟨_, _, begins_list a its.toArray, p.isList, fun h it e => ⟨_, e, rfl, rfl⟩⟩
  | .tp a, xs, u, h, r => by
    cases r
    obtain ⟨its, rv, p, _⟩ := I.tuple h
    exact ⟨_, _, begins_tuple a its.toArray, p, fun h it e => ⟨_, e, rfl, rfl⟩⟩
  | .tx z, xs, u, h, r => by
    obtain ⟨t, rfl⟩ := r
    exact ⟨_, _, begins_text z t, trivial, fun h it e => ⟨t, _, e, rfl, rfl⟩⟩
theorem Src.low (I : Inv X pins σ H s) : ∀ {x : Src} {xs : List V} {a : Addr}, x.holds X.K H xs → x.ref = some a → a < s.heap.objs.size
  | .ls a, xs, b, h, e => by
    cases e
    obtain ⟨its, rv, p, _⟩ := I.list h
    obtain ⟨o, e, _⟩ := p.isList
    exact Heap.lt_size e
  | .tp a, xs, b, h, e => by
    cases e
    obtain ⟨its, rv, ⟨o, e, _⟩, _⟩ := I.tuple h
    exact Heap.lt_size e
  | .tx z, xs, b, h, e => by cases e
def iZipG (K : PySem.W.Frag) (ta : TA) : TI := fun σ H R => ta σ H fun vs H1 => ∃ (a b : Src) (xs ys : List V), vs = [a.v, b.v] ∧ a.holds K H1 xs ∧ b.holds K H1 ys ∧ R (ItzG K a b) H1
theorem pi_zipG {e e2 : Expr} {ta : TA} {p pos tpos : Pos} {elts : List Expr} {kk : Nat} (hg : Gl X "zip") (hm : X.mg "zip" = none) (ha : PA X [e, e2] ta)
    (hs : starEach [e, e2] X.env = (false, eval e X.env) :: starEach [e2] X.env := by rfl) (hpl : (backTo pos (starEach [e2] X.env)).any (·.1) = false := by rfl) :
    PI X (.Tuple elts kk tpos) (.Call (.Name "zip" p) [e, e2] [] pos) (iZipG X.K ta) := by
  refine ⟨fun pins s σ H R I h => Call_ (ld_blt I hg hm PyProof.Rows.boot_zip (PyProof.Rows.callWith_type1 (thn (ha.run pos pins s σ H _ I h) fun us s1 ⟨vs, H1, I1, r1, q1⟩ => ?_) hs hpl))⟩
  obtain ⟨a, b, xs, ys, ex, h1, h2, q⟩ := q1
  subst ex
  cases r1 with
  | cons ra rr =>
    cases rr with
    | cons rb rr =>
      cases rr
      obtain ⟨o1, B1, b1, k1, i1⟩ := Src.begins I1 h1 ra
      obtain ⟨o2, B2, b2, k2, i2⟩ := Src.begins I1 h2 rb
      refine zip_begins2 b1 b2 k1 k2 fun h' hz hTI hTO g1 g2 hsz hk => wpAny_pyIter_zip hz ?_
      have I2 : Inv X pins σ H1 { s1 with heap := h' } := I1.kept (t' := s1.toks) hk
      have fr : ∀ c ∈ [s1.heap.objs.size + 4, s1.heap.objs.size + 2, s1.heap.objs.size + 3, s1.heap.objs.size, s1.heap.objs.size + 1], s1.heap.objs.size ≤ c := fun c hc => by
        simp only [List.mem_cons, List.not_mem_nil, or_false] at hc
        rcases hc with z | z | z | z | z <;> rw [z]
        · exact Nat.le_add_right _ _
        · exact Nat.le_add_right _ _
        · exact Nat.le_add_right _ _
        · exact Nat.le_refl _
        · exact Nat.le_add_right _ _
      have ap : ∀ {x : Src} {l : List V}, x.holds X.K H1 l → ∀ c ∈ [s1.heap.objs.size + 4, s1.heap.objs.size + 2, s1.heap.objs.size + 3, s1.heap.objs.size, s1.heap.objs.size + 1], x.ref ≠ some c := fun hx c hc z => absurd (Src.low I1 hx z) (Nat.not_lt.mpr (fr c hc))
      have ne : ∀ i j : Nat, i ≠ j → (s1.heap.objs.size + i : Nat) ≠ s1.heap.objs.size + j := fun i j h e => h (Nat.add_left_cancel e)
      refine ⟨s1.heap.objs.size + 4, [s1.heap.objs.size + 4, s1.heap.objs.size + 2, s1.heap.objs.size + 3, s1.heap.objs.size, s1.heap.objs.size + 1], _, _, H1, rfl, I2, turn_zipG (a := a) (b := b)
        { TIz := ne 2 4 (by decide), TOz := ne 3 4 (by decide), TITO := ne 2 3 (by decide), TIi1 := ne 2 0 (by decide), TIi2 := ne 2 1 (by decide), TOi1 := ne 3 0 (by decide), TOi2 := ne 3 1 (by decide), zi1 := ne 4 0 (by decide), zi2 := ne 4 1 (by decide), i12 := ne 0 1 (by decide), ra := ap h1, rb := ap h2 },
        ⟨hz, hTI, ⟨_, _, hTO⟩, i1 _ _ g1, i2 _ _ g2⟩, fun c hc => I1.fpOk (fr c hc) (I1.hok.fresh (fr c hc)), q⟩
/-! enumerate -/
def IteG (K : PySem.W.Frag) (a : Src) : It :=
  ⟨fun i H => ∃ (xs : List V) (x : V), a.holds K H xs ∧ xs[i]? = some x,
    fun i H v H' => ∃ T x, v = .ref T ∧ H T = none ∧ H' = upd H T (.tup [.int (i : Nat), x]) ∧ ∀ xs, a.holds K H xs → xs[i]? = some x,
    fun i H => ∃ xs : List V, a.holds K H xs ∧ i = xs.length⟩
theorem turn_enumG {P : Program} {w : World} {K : PySem.W.Frag} {elts : List Expr} {kk : Nat} {tpos : Pos} {a : Src} {e it : Addr} (hne : e ≠ it) (ra : ∀ c ∈ [e, it], a.ref ≠ some c) :
    Turn P w K (.Tuple elts kk tpos) (IteG K a) [e, it] e (fun i h => (∃ old, IsEnum h e it ((i : Nat) : Int) old) ∧ a.iter h it i) where
  mem := by simp
  obj := fun i h st c hc => by
    obtain ⟨⟨old, he⟩, h1⟩ := st
    simp only [List.mem_cons, List.not_mem_nil, or_false] at hc
    rcases hc with q | q <;> rw [q]
    · exact ⟨_, he, fun v q => nomatch q⟩
    · exact Src.iter_obj h1
  keep := fun i h h' st k => ⟨let ⟨old, he⟩ := st.1; ⟨old, k e (by simp) _ he⟩, Src.iter_at st.2 fun o q => k it (by simp) o q⟩
  item := by
    intro X hP hw hK hc i pins s σ H E I hf st hg
    subst hP hw hK
    obtain ⟨⟨old, he⟩, h1⟩ := st
    obtain ⟨xs, x, hqx, hx⟩ := hg
    have hh : X.A.in1.handled = none := I.ok.hd hc
    obtain ⟨fp1, P1, St1, D1, st1⟩ := Src.drw I hh hqx h1 (ra it (by simp))
    have G := GoesN.enumFrom (elts := elts) (x1 := kk) (pos := tpos) 0 D1.D e hne (fun hm => (D1.sub _ hm).elim hne (ra e (by simp))) D1.mem
    have lx := (List.getElem?_eq_some_iff.mp hx).1
    refine wpAny_mono (G.goes i s (fun v s2 => ∃ x H', Inv X pins σ H' s2 ∧ RelV x v ∧ (IteG X.K a).yld i H x H' ∧ ((∃ old, IsEnum s2.heap e it ((i + 1 : Nat) : Int) old) ∧ a.iter s2.heap it (i + 1)) ∧ ∀ b ∈ [e, it], H' b = none) E lx ⟨⟨old, by rw [Int.zero_add]; exact he⟩, st1⟩ fun v h' tk Y St' keep _ => ?_) (fun r s1 h => ?_) (fun _ _ h => h)
    · obtain ⟨T, t, u1, rfl, hT, p1, tT⟩ := Y
      obtain ⟨v1, e1, r1⟩ := D1.val i u1 p1
      obtain ⟨o, ho, hcl, n, hd⟩ := id tT
      have new : ObjOk X.prog X.w (upd H T (.tup [.int (i : Nat), v1])) h' T (.tup [.int (i : Nat), v1]) := ⟨by show 2 ≤ sizeLine; decide, [.int (0 + (i : Int)) t, u1], .cons ⟨t, by rw [Int.zero_add]⟩ (.cons r1 .nil), ⟨o, ho, hcl, n, hd⟩⟩
      have I1 : Inv X pins σ (upd H T (.tup [.int (i : Nat), v1])) { s with heap := h', toks := tk } := I.turnedNew (ch := [e, it]) (fun c o hb q => keep c o hb q) hf hT new
      obtain ⟨⟨old2, a1⟩, a4⟩ := St'
      rw [Int.zero_add] at a1
      refine ⟨.ref T, _, I1, rfl, ⟨T, v1, rfl, I.hok.fresh hT, rfl, fun l hl => by rw [Src.inj I hl hqx]; exact e1⟩, ⟨⟨old2, a1⟩, D1.back _ _ a4⟩, fun c hcm => ?_⟩
      have hlt : c < s.heap.objs.size := by
        simp only [List.mem_cons, List.not_mem_nil, or_false] at hcm
        rcases hcm with q | q <;> rw [q]
        · exact Heap.lt_size he
        · exact D1.low _ _ st1 _ D1.mem
      rw [upd_ne (Nat.ne_of_lt (Nat.lt_of_lt_of_le hlt hT))]
      exact (hf c hcm).1
    · obtain ⟨v, e, q⟩ := h
      exact ⟨v, e, q⟩
  done := by
    intro X hP hw hK hc i pins s σ H E I hf st hg
    subst hP hw hK
    obtain ⟨⟨old, he⟩, h1⟩ := st
    obtain ⟨xs, hqx, hend⟩ := hg
    have hh : X.A.in1.handled = none := I.ok.hd hc
    obtain ⟨fp1, P1, St1, D1, st1⟩ := Src.drw I hh hqx h1 (ra it (by simp))
    have G := GoesN.enumFrom (elts := elts) (x1 := kk) (pos := tpos) 0 D1.D e hne (fun hm => (D1.sub _ hm).elim hne (ra e (by simp))) D1.mem
    subst hend
    exact G.stops s _ E ⟨⟨old, by rw [Int.zero_add]; exact he⟩, st1⟩ fun h' tk keep _ => I.turnedL (ch := [e, it]) (fun c o hb q => keep c o hb q) hf
  self := fun A i s Q E st h => let ⟨⟨_, he⟩, _⟩ := st; wpAny_pyIter_enum he h
theorem meets_enum1 {v : Value} {o : Obj} {Hh : Heap → Prop} (B : Begins v o Hh) : Meets (Builtin.«enumerate.__new__» ⟨[.type "enumerate", v], []⟩) (fun _ R s => Hh s.heap ∧
      R (.ok (.ret (.ref (s.heap.push o).objs.size))) { s with heap := (s.heap.push o).push { cls := .type "enumerate", data := .fields #[.none, .bool false, .ref s.heap.objs.size, rawInt 0, .none, .none] } }) :=
  .of_wp fun prog w A R s h => by
    obtain ⟨hp, g, d, tk, os⟩ := s
    obtain ⟨h1, h⟩ := h
    have sub := sub_enumerate
    have begun : ∀ {A1 : Around} {E Q : Value → Shared → Prop}, Q (.ref hp.objs.size) ⟨hp.push o, g, d, tk, os⟩ → wpAny (model prog w) A1 (pyIter v) Q E ⟨hp, g, d, tk, os⟩ := fun q => B.iter prog w _ _ ⟨hp, g, d, tk, os⟩ _ h1 q
    wp_walk using begun
    refine wpAny_stack_any fun st => wpAny_pure ?_
    split
    · rename_i c _ _ _ _ _
      cases (c == Value.type "enumerate") <;> (wp_walk using begun; exact ⟨_, rfl, h⟩)
    · wp_walk using begun
      exact ⟨_, rfl, h⟩
theorem enum_begins1 {prog : Program} {w : World} {A : Around} {E : Value → Shared → Prop} {s : Shared} {v : Value} {o : Obj} {Hh : Heap → Prop} {Q : Value → Shared → Prop} (B : Begins v o Hh) (h1 : Hh s.heap)
    (h : ∀ h', IsEnum h' (s.heap.objs.size + 1) s.heap.objs.size 0 .none → h'.get? s.heap.objs.size = some o → (∀ b o, s.heap.get? b = some o → h'.get? b = some o) → Q (.ref (s.heap.objs.size + 1)) { s with heap := h' }) :
    wpAny (model prog w) A (call (.type "enumerate") [v]) Q E s := by
  refine callType_new F.called_enumerate (by decide) (F.typeCall_enumerate_1 _) (F.newCall_enumerate_1 _) (fun obj => F.args_object_init_2 obj _) F.entry_enumerate_new (meets_enum1 B) ⟨h1, ?_⟩
  have z1 : (s.heap.push o).objs.size = s.heap.objs.size + 1 := Heap.size_push ..
  show _ ∧ _
  rw [z1]
  have en := Heap.get?_push_size (s.heap.push o) (o := { cls := .type "enumerate", data := .fields #[.none, .bool false, .ref s.heap.objs.size, rawInt 0, .none, .none] }) rfl
  rw [z1] at en
  exact ⟨⟨_, en, rfl⟩, h _ en (Heap.get?_push_of_some _ (Heap.get?_push_size _ B.free)) fun b o x => Heap.get?_push_of_some _ (Heap.get?_push_of_some _ x)⟩
def iEnumG (K : PySem.W.Frag) (ta : TA) : TI := fun σ H R => ta σ H fun vs H1 => ∃ (a : Src) (xs : List V), vs = [a.v] ∧ a.holds K H1 xs ∧ R (IteG K a) H1
theorem pi_enumG {e : Expr} {ta : TA} {p pos tpos : Pos} {elts : List Expr} {kk : Nat} (hg : Gl X "enumerate") (hm : X.mg "enumerate" = none) (ha : PA X [e] ta) (hs : starEach [e] X.env = [(false, eval e X.env)] := by rfl) :
    PI X (.Tuple elts kk tpos) (.Call (.Name "enumerate" p) [e] [] pos) (iEnumG X.K ta) := by
  refine ⟨fun pins s σ H R I h => Call_ (ld_blt I hg hm boot_enumerate (PyProof.Rows.callWith_type1 (thn (ha.run pos pins s σ H _ I h) fun us s1 ⟨vs, H1, I1, r1, q1⟩ => ?_) hs rfl))⟩
  obtain ⟨a, xs, ex, h1, q⟩ := q1
  subst ex
  cases r1 with
  | cons ra rr =>
    cases rr
    obtain ⟨o1, B1, b1, k1, i1⟩ := Src.begins I1 h1 ra
    refine enum_begins1 b1 k1 fun h' he g1 hk => wpAny_pyIter_enum he ?_
    have I2 : Inv X pins σ H1 { s1 with heap := h' } := I1.kept (t' := s1.toks) hk
    have fr : ∀ c ∈ [s1.heap.objs.size + 1, s1.heap.objs.size], s1.heap.objs.size ≤ c := fun c hc => by
      simp only [List.mem_cons, List.not_mem_nil, or_false] at hc
      rcases hc with z | z <;> rw [z]
      · exact Nat.le_add_right _ _
      · exact Nat.le_refl _
    exact ⟨s1.heap.objs.size + 1, [s1.heap.objs.size + 1, s1.heap.objs.size], _, _, H1, rfl, I2, turn_enumG (a := a) (Nat.succ_ne_self _) (fun c hc z => absurd (Src.low I1 h1 z) (Nat.not_lt.mpr (fr c hc))), ⟨⟨.none, he⟩, i1 _ _ g1⟩, fun c hc => I1.fpOk (fr c hc) (I1.hok.fresh (fr c hc)), q⟩
end
end AL

namespace AL
open PySem PySem.Spec PyProof.Rows L2
variable {B : Bs}
section
variable {X : Cx} {pos : Pos} {K : PySem.W.Frag}
/-! ### enumerate, zip of lists, tuples, texts -/
def srcD (C : AH) : D → Option (List D)
  | .str z => some (signs z)
  | .tup ds => some ds
  | d => asLr C d
theorem src_ok {F : Hp} {C : AH} {R H : Hp} {v : V} {d : D} {ds : List D} (hS : Sat B K F C R H) (r : Rep K F v d) (h : srcD C d = some ds) :
    ∃ a : Src, v = a.v ∧ ∀ F' C' R' H', Ex F F' → Sat B K F' C' R' H' → srcD C' d = some ds → ∃ xs, a.holds K H' xs ∧ RepL K F' xs ds := by
  cases d with
  | str z =>
    cases r
    exact ⟨.tx z, rfl, fun F' C' R' H' _ _ h' => ⟨_, rfl, by cases h'; exact signs_rep z⟩⟩
  | tup us =>
    obtain ⟨p, xs, e1, h1, h2⟩ := asT_ok hS r rfl
    refine ⟨.tp p, e1, fun F' C' R' H' e S' h' => ?_⟩
    cases h'
    obtain ⟨p', xs', e2, h3, h4⟩ := asT_ok S' (r.mono e) rfl
    rw [e1] at e2; cases e2
    exact ⟨xs', SqT.of h3, h4⟩
  | _ =>
    obtain ⟨p, xs, e1, h1, h2⟩ := asLr_ok hS r (show asLr C _ = some ds from h)
    refine ⟨.ls p, e1, fun F' C' R' H' e S' h' => ?_⟩
    obtain ⟨p', xs', e2, h3, h4⟩ := asLr_ok S' (r.mono e) (show asLr C' _ = some ds from h')
    rw [e1] at e2; cases e2
    exact ⟨xs', h3, h4⟩
def aIZG (a : AA') : AI' := fun s C P => a s C fun us C1 => match us with | [x, y] => (match srcD C1 x, srcD C1 y with | some ds, some es => P (zipD ds es) (fun C' => srcD C' x = some ds ∧ srcD C' y = some es) C1 | _, _ => False) | _ => False
theorem ai_zipG {e e2 : Expr} {elts : List Expr} {kk n : Nat} {tpos p : Pos} {ta : TA} {a : AA'} (hm : X.mg "zip" = none) (h : AA B X [e, e2] n ta a) (hg : Gl X "zip" := by rfl) (hs : starEach [e, e2] X.env = (false, eval e X.env) :: starEach [e2] X.env := by rfl) (hpl : (backTo pos (starEach [e2] X.env)).any (·.1) = false := by rfl) (hK : X.K = K := by rfl) :
    AI B X (.Tuple elts kk tpos) (.Call (.Name "zip" p) [e, e2] [] pos) (iZipG K ta) (aIZG a) := by
  subst hK
  exact ⟨pi_zipG hg hm h.pa hs hpl, by
  intro σ s F C R H Q P hs hS h0 k
  refine h.sim σ s F C R H _ _ hs hS h0 fun us vs F1 C1 H1 e1 S1 r0 hl h1 => ?_
  split at h1
  · rename_i x y
    cases r0 with
    | cons r1 r2 =>
      cases r2 with
      | cons r2 r3 =>
      cases r3
      split at h1
      · rename_i ds es q q2
        obtain ⟨a, e2, l1⟩ := src_ok S1 r1 q
        obtain ⟨b, e3, l2⟩ := src_ok S1 r2 q2
        obtain ⟨xs, g1, g2⟩ := l1 F1 C1 R H1 (Ex.refl F1) S1 q
        obtain ⟨ys, g3, g4⟩ := l2 F1 C1 R H1 (Ex.refl F1) S1 q2
        refine ⟨a, b, xs, ys, by rw [e2, e3], g1, g3, k _ _ _ F1 C1 H1 e1 S1 ⟨fun F' C' R' H' e S hc => ?_, fun F' C' R' H' i e S hc hi => ?_, fun F' C' R' H' i x H'' e S hc hi y => ?_⟩ h1⟩
        · obtain ⟨xs', h4, h5⟩ := l1 F' C' R' H' e S hc.1
          obtain ⟨ys', g4, g5⟩ := l2 F' C' R' H' e S hc.2
          refine ⟨xs', ys', h4, g4, ?_⟩
          rw [h5.length, g5.length, zipD_len]
        · obtain ⟨xs', h4, h5⟩ := l1 F' C' R' H' e S hc.1
          obtain ⟨ys', g4, g5⟩ := l2 F' C' R' H' e S hc.2
          rw [zipD_len] at hi
          exact ⟨xs', ys', xs'[i]'(by rw [h5.length]; omega), ys'[i]'(by rw [g5.length]; omega), h4, g4, by simp, by simp⟩
        · obtain ⟨xs', h4, h5⟩ := l1 F' C' R' H' e S hc.1
          obtain ⟨ys', g4, g5⟩ := l2 F' C' R' H' e S hc.2
          obtain ⟨T, v, w', y1, y2, y3, y4, y5⟩ := y
          subst y1; subst y3
          obtain ⟨d, h6, h7⟩ := h5.get (y4 xs' h4)
          obtain ⟨d2, g6, g7⟩ := g5.get (y5 ys' g4)
          have eN := Ex.new (o := .tup [v, w']) (S.freeF y2)
          exact ⟨_, _, zipD_get h6 g6, eN, S.newF y2 _, .tup upd_same (.cons (h7.mono eN) (.cons (g7.mono eN) .nil))⟩
      · exact h1.elim
  · exact h1.elim⟩
def aIEG (a : AA') : AI' := fun s C P => a s C fun us C1 => match us with | [x] => (match srcD C1 x with | some ds => P (enumD ds) (fun C' => srcD C' x = some ds) C1 | none => False) | _ => False
theorem ai_enumG {e : Expr} {elts : List Expr} {kk n : Nat} {tpos p : Pos} {ta : TA} {a : AA'} (hm : X.mg "enumerate" = none) (h : AA B X [e] n ta a) (hg : Gl X "enumerate" := by rfl) (hs : starEach [e] X.env = [(false, eval e X.env)] := by rfl) (hK : X.K = K := by rfl) : AI B X (.Tuple elts kk tpos) (.Call (.Name "enumerate" p) [e] [] pos) (iEnumG K ta) (aIEG a) := by
  subst hK
  exact ⟨pi_enumG hg hm h.pa hs, by
  intro σ s F C R H Q P hs hS h0 k
  refine h.sim σ s F C R H _ _ hs hS h0 fun us vs F1 C1 H1 e1 S1 r0 hl h1 => ?_
  split at h1
  · rename_i x
    cases r0 with
    | cons r1 r2 =>
      cases r2
      split at h1
      · rename_i ds q
        obtain ⟨a, e2, l1⟩ := src_ok S1 r1 q
        obtain ⟨xs, g1, g2⟩ := l1 F1 C1 R H1 (Ex.refl F1) S1 q
        refine ⟨a, xs, by rw [e2], g1, k _ _ _ F1 C1 H1 e1 S1 ⟨fun F' C' R' H' e S hc => ?_, fun F' C' R' H' i e S hc hi => ?_, fun F' C' R' H' i x H'' e S hc hi y => ?_⟩ h1⟩
        · obtain ⟨xs', h4, h5⟩ := l1 F' C' R' H' e S hc
          exact ⟨xs', h4, by rw [h5.length, enumD_len]⟩
        · obtain ⟨xs', h4, h5⟩ := l1 F' C' R' H' e S hc
          rw [enumD_len] at hi
          exact ⟨xs', xs'[i]'(by rw [h5.length]; exact hi), h4, by simp⟩
        · obtain ⟨xs', h4, h5⟩ := l1 F' C' R' H' e S hc
          obtain ⟨T, v, y1, y2, y3, y4⟩ := y
          subst y1; subst y3
          obtain ⟨d, h6, h7⟩ := h5.get (y4 xs' h4)
          have eN := Ex.new (o := .tup [.int (i : Nat), v]) (S.freeF y2)
          exact ⟨_, _, enumD_get h6, eN, S.newF y2 _, .tup upd_same (.cons (.int _) (.cons (h7.mono eN) .nil))⟩
      · exact h1.elim
  · exact h1.elim⟩
/-! ### a text in a text -/
def aInT (neg : Bool) : D → D → AH → (D → AH → Prop) → Prop := fun x y C P => match x, y with
  | .str i, .str j => P (.bl (if neg then !(!(Builtin.Str.occurrences j i 0 j.length 1).isEmpty) else !(Builtin.Str.occurrences j i 0 j.length 1).isEmpty)) C
  | _, _ => False
abbrev aInS := aInT false
abbrev aNinS := aInT true
theorem ao_inS : AOp B X (compareOp .In) (fun x y H Q => ∃ i j, x = .str i ∧ y = .str j ∧ Q (.bl (!(Builtin.Str.occurrences j i 0 j.length 1).isEmpty)) H) aInS := ⟨op_in_str, by
  intro v w d e F C R H Q P hS r1 r2 h k
  unfold aInS aInT at h
  split at h
  · cases r1; cases r2
    exact ⟨_, _, rfl, rfl, k _ _ F C H (Ex.refl F) hS (.bl _) h⟩
  · exact h.elim⟩
theorem ao_ninS : AOp B X (compareOp .NotIn) (fun x y H Q => ∃ i j, x = .str i ∧ y = .str j ∧ Q (.bl (!(!(Builtin.Str.occurrences j i 0 j.length 1).isEmpty))) H) aNinS := ⟨op_notin_str, by
  intro v w d e F C R H Q P hS r1 r2 h k
  unfold aNinS aInT at h
  split at h
  · cases r1; cases r2
    exact ⟨_, _, rfl, rfl, k _ _ F C H (Ex.refl F) hS (.bl _) h⟩
  · exact h.elim⟩
end
/-! one step each -/
section
variable {s : ASt} {C : AH} {P : D → AH → Prop} {aa : AA'} {PI : List D → (AH → Prop) → AH → Prop}
def kIZG (PI : List D → (AH → Prop) → AH → Prop) : List D → AH → Prop := fun us C1 => match us with | [x, y] => (match srcD C1 x, srcD C1 y with | some ds, some es => PI (zipD ds es) (fun C' => srcD C' x = some ds ∧ srcD C' y = some es) C1 | _, _ => False) | _ => False
theorem g_izG (h : aa s C (kIZG PI)) : aIZG aa s C PI := h
theorem g_kIZG {x y : D} {ds es : List D} (h1 : ∀ C' : AH, srcD C' x = some ds) (h2 : ∀ C' : AH, srcD C' y = some es) (h : PI (zipD ds es) (fun _ => True) C) : kIZG PI [x, y] C := by
  unfold kIZG
  simp only [h1, h2]
  have m : (fun _ : AH => True) = fun _ : AH => (True ∧ True) := by funext C'; simp
  rw [← m]
  exact h
def kIEG (PI : List D → (AH → Prop) → AH → Prop) : List D → AH → Prop := fun us C1 => match us with | [x] => (match srcD C1 x with | some ds => PI (enumD ds) (fun C' => srcD C' x = some ds) C1 | none => False) | _ => False
theorem g_ieG (h : aa s C (kIEG PI)) : aIEG aa s C PI := h
theorem g_kIEG {x : D} {ds : List D} (h1 : ∀ C' : AH, srcD C' x = some ds) (h : PI (enumD ds) (fun _ => True) C) : kIEG PI [x] C := by
  unfold kIEG
  simp only [h1]
  exact h
theorem g_inS {i j : Str} (h : P (.bl (!(Builtin.Str.occurrences j i 0 j.length 1).isEmpty)) C) : aInS (.str i) (.str j) C P := h
theorem g_ninS {i j : Str} (h : P (.bl (!(!(Builtin.Str.occurrences j i 0 j.length 1).isEmpty))) C) : aNinS (.str i) (.str j) C P := h
end
end AL

namespace AL
open PySem PySem.Spec PyProof.Rows L2
variable {B : Bs}
section
variable {X : Cx} {pos : Pos} {K : PySem.W.Frag}
/-! a.startswith(b), a.endswith(b), a.count(b) -/
def aStartswith : D → ASp := fun x ds C P => match x, ds with
  | .str a, [.str b] => P (.bl (Txt.startswith a b)) C
  | _, _ => False
def aEndswith : D → ASp := fun x ds C P => match x, ds with
  | .str a, [.str b] => P (.bl (Txt.endswith a b)) C
  | _, _ => False
def aScount : D → ASp := fun x ds C P => match x, ds with
  | .str a, [.str b] => P (.int (Txt.count a b)) C
  | _, _ => False
theorem am_startswith : AMt B X "str.startswith" (fun x xs H Q => ∃ a b, x = .str a ∧ xs = [.str b] ∧ Q (.bl (Txt.startswith a b)) H) aStartswith := ⟨fun pins s σ H x xs v us Q I r1 r2 h => mt_startswith pins s σ H x xs v us Q I r1 r2 h, by
  intro v d vs ds F C R H Q P hS r1 r2 h k
  unfold aStartswith at h
  split at h
  · cases r1
    cases r2 with
    | cons r2 r3 =>
      cases r3
      cases r2
      exact ⟨_, _, rfl, rfl, k _ _ F C H (Ex.refl F) hS (.bl _) h⟩
  · exact h.elim⟩
theorem am_endswith : AMt B X "str.endswith" (fun x xs H Q => ∃ a b, x = .str a ∧ xs = [.str b] ∧ Q (.bl (Txt.endswith a b)) H) aEndswith := ⟨fun pins s σ H x xs v us Q I r1 r2 h => mt_endswith pins s σ H x xs v us Q I r1 r2 h, by
  intro v d vs ds F C R H Q P hS r1 r2 h k
  unfold aEndswith at h
  split at h
  · cases r1
    cases r2 with
    | cons r2 r3 =>
      cases r3
      cases r2
      exact ⟨_, _, rfl, rfl, k _ _ F C H (Ex.refl F) hS (.bl _) h⟩
  · exact h.elim⟩
theorem am_scount : AMt B X "str.count" (fun x xs H Q => ∃ a b, x = .str a ∧ xs = [.str b] ∧ Q (.int (Txt.count a b)) H) aScount := ⟨fun pins s σ H x xs v us Q I r1 r2 h => mt_count pins s σ H x xs v us Q I r1 r2 h, by
  intro v d vs ds F C R H Q P hS r1 r2 h k
  unfold aScount at h
  split at h
  · cases r1
    cases r2 with
    | cons r2 r3 =>
      cases r3
      cases r2
      exact ⟨_, _, rfl, rfl, k _ _ F C H (Ex.refl F) hS (.int _) h⟩
  · exact h.elim⟩
end
section
variable {C : AH} {P : D → AH → Prop}
theorem g_starts {a b : Str} (h : P (.bl (decide (a.cps.toList.take b.length = b.cps.toList))) C) : aStartswith (.str a) [.str b] C P := by
  show P (.bl (Txt.startswith a b)) C
  have e : Txt.startswith a b = decide (a.cps.toList.take b.length = b.cps.toList) := by
    unfold Txt.startswith
    rw [PySem.StrLaws.subAt_eq]
    rw [Bool.eq_iff_iff, Bool.and_eq_true, decide_eq_true_eq, decide_eq_true_eq, beq_iff_eq, List.drop_zero]
    refine ⟨fun z => z.2, fun z => ⟨?_, z⟩⟩
    have := congrArg List.length z
    rw [List.length_take] at this
    have h1 : b.length = b.cps.toList.length := by show b.cps.size = _; simp
    have h2 : a.length = a.cps.toList.length := by show a.cps.size = _; simp
    omega
  rw [e]; exact h
theorem g_ends {a b : Str} (h : P (.bl (decide (b.length ≤ a.length ∧ a.cps.toList.drop (a.length - b.length) = b.cps.toList))) C) : aEndswith (.str a) [.str b] C P := by
  show P (.bl (Txt.endswith a b)) C
  have e : Txt.endswith a b = decide (b.length ≤ a.length ∧ a.cps.toList.drop (a.length - b.length) = b.cps.toList) := by
    unfold Txt.endswith
    rw [Bool.eq_iff_iff, Bool.and_eq_true, decide_eq_true_eq, decide_eq_true_eq, PySem.StrLaws.subAt_eq, beq_iff_eq]
    rw [Nat.zero_add]
    refine and_congr_right fun z => ?_
    rw [List.take_of_length_le]
    have h2 : a.length = a.cps.toList.length := by show a.cps.size = _; simp
    rw [List.length_drop]
    omega
  rw [e]; exact h
/-- the places of one sign -/
theorem occ_one_list (s : Str) (c hi limit : Nat) : ∀ (l : List Nat) (st : Array Nat × Nat), (∀ i ∈ l, st.snd ≤ i) → l.Pairwise (· < ·) → st.fst.size + l.length ≤ limit →
    (forIn l st (PySem.StrLaws.occBody s ⟨#[c]⟩ hi limit)).run.fst.toList = st.fst.toList ++ l.filter fun i => decide (i + 1 ≤ hi) && Builtin.Str.subAt s ⟨#[c]⟩ i
  | [], st, _, _, _ => by simp
  | a :: l, st, h, hp, hl => by
    obtain ⟨hp1, hp2⟩ := List.pairwise_cons.mp hp
    rw [List.length_cons] at hl
    rw [List.forIn_cons]
    unfold PySem.StrLaws.occBody
    have e1 : (⟨#[c]⟩ : Str).length = 1 := rfl
    rw [e1]
    have ha := h a (List.mem_cons_self ..)
    split
    · rename_i hc
      have ih := occ_one_list s c hi limit l (st.fst.push a, a + 1) (fun i hi' => by have := hp1 i hi'; exact this) hp2 (by simp; omega)
      unfold PySem.StrLaws.occBody at ih
      rw [e1] at ih
      rw [List.filter_cons, if_pos (by simp [hc.2, hc.1.2])]
      refine Eq.trans ih ?_
      simp
    · rename_i hc
      have ih := occ_one_list s c hi limit l st (fun i hi' => h i (List.mem_cons_of_mem _ hi')) hp2 (by omega)
      unfold PySem.StrLaws.occBody at ih
      rw [e1] at ih
      rw [List.filter_cons, if_neg (by
        intro z
        simp only [Bool.and_eq_true, decide_eq_true_eq] at z
        exact hc ⟨⟨⟨by omega, ha⟩, z.1⟩, z.2⟩)]
      exact ih
theorem range_filter (c : Nat) : ∀ (xs : List Nat) (k : Nat) (f : Nat → Bool), (∀ i, f (k + i) = decide (xs[i]? = some c)) → ((List.range' k (xs.length + 1)).filter f).length = (xs.filter fun b => decide (b = c)).length
  | [], k, f, hf => by
    have := hf 0
    simp at this
    simp [this]
  | x :: xs, k, f, hf => by
    have h0 := hf 0
    have ih := range_filter c xs (k + 1) f fun i => by
      have := hf (i + 1)
      rw [show k + (i + 1) = k + 1 + i by omega] at this
      simpa using this
    simp only [Nat.add_zero, List.getElem?_cons_zero, Option.some.injEq] at h0
    rw [List.length_cons, List.range'_succ, List.filter_cons, List.filter_cons, h0]
    split
    · rw [List.length_cons, List.length_cons, ih]
    · exact ih
theorem count_one (s : Str) (c : Nat) : Txt.count s ⟨#[c]⟩ = (s.cps.toList.filter fun b => decide (b = c)).length := by
  unfold Txt.count
  rw [PySem.StrLaws.occ_eq, occ_one_list s c _ _ _ _ (fun _ _ => Nat.zero_le _) List.pairwise_lt_range' (by simp)]
  have hl : s.length = s.cps.toList.length := by show s.cps.size = _; simp
  rw [show s.length + 1 - 0 = s.cps.toList.length + 1 by omega]
  refine congrArg (fun n : Nat => (n : Int)) (range_filter c s.cps.toList 0 (fun i => decide (i + 1 ≤ s.length) && Builtin.Str.subAt s ⟨#[c]⟩ i) fun i => ?_)
  have := PySem.StrLaws.subAt_one s c i
  rw [Nat.zero_add, Bool.eq_iff_iff, Bool.and_eq_true, decide_eq_true_eq, decide_eq_true_eq]
  exact this
end
end AL

namespace AL
open PySem PySem.Spec PyProof.Rows L2
variable {B : Bs}
/-! ### for x in a list, a tuple, a text, whichever it is -/
def iAny (K : PySem.W.Frag) (tl : TE) : TI := fun σ H R => tl σ H fun x H1 =>
  (∃ a, x = .ref a ∧ (∃ xs, SqL K H1 a xs) ∧ R (Itl K a) H1) ∨ (∃ a, x = .ref a ∧ (∃ xs, SqT K H1 a xs) ∧ R (Itt K a) H1) ∨ ∃ z, x = .str z ∧ R (Its z) H1
section
variable {X : Cx} {pos : Pos} {K : PySem.W.Frag}
theorem pi_any {tg l : Expr} {tl : TE} (hl : PE X l tl) : PI X tg l (iAny X.K tl) := by
  refine ⟨fun pins s σ H R I h => ?_⟩
  refine thn (hl.run pins s σ H _ I h) fun v s1 ⟨x, H1, I1, r1, q1⟩ => ?_
  rcases q1 with ⟨a, e, ⟨xs, hq⟩, q⟩ | ⟨a, e, ⟨xs, hq⟩, q⟩ | ⟨z, ez, q⟩
  · subst e
    cases r1
    obtain ⟨its, rv, p, hz⟩ := I1.list hq
    refine wpAny_pyIter_list p.isList ?_
    refine ⟨s1.heap.objs.size, [s1.heap.objs.size], _, _, H1, rfl, I1.kept (t' := s1.toks) fun b o e => Heap.get?_push_of_some _ e, turn_list a _, ⟨_, Heap.get?_push_size _ rfl, rfl, rfl⟩, fun b hb => ?_, q⟩
    have e : b = s1.heap.objs.size := by simpa using hb
    subst e
    exact I1.fpOk (Nat.le_refl _) (I1.hok.fresh (Nat.le_refl _))
  · subst e
    cases r1
    obtain ⟨its, rv, p, hz⟩ := I1.tuple hq
    refine wpAny_pyIter_tuple (show s1.heap.IsTuple a its.toArray from p) ?_
    refine ⟨s1.heap.objs.size, [s1.heap.objs.size], _, _, H1, rfl, I1.kept (t' := s1.toks) fun b o e => Heap.get?_push_of_some _ e, turn_tuple a _, ⟨_, Heap.get?_push_size _ rfl, rfl, rfl⟩, fun b hb => ?_, q⟩
    have e : b = s1.heap.objs.size := by simpa using hb
    subst e
    exact I1.fpOk (Nat.le_refl _) (I1.hok.fresh (Nat.le_refl _))
  · subst ez
    obtain ⟨t, rfl⟩ := r1
    cases ha : z.cps.all (· < 128)
    · exact wpAny_pyIter_wide ha (pi_one (tk := s1.toks) I1 _ (turn_str _ z t "str_iterator" (.inr rfl)) ⟨_, Heap.get?_push_size _ rfl, rfl, rfl⟩ q)
    · exact wpAny_pyIter_ascii ha (pi_one (tk := s1.toks) I1 _ (turn_str _ z t "str_ascii_iterator" (.inl rfl)) ⟨_, Heap.get?_push_size _ rfl, rfl, rfl⟩ q)
def aIA (a : AE') : AI' := fun s C P => a s C fun x C1 => match srcD C1 x with | some ds => P ds (fun C' => srcD C' x = some ds) C1 | none => False
theorem ai_any {tg e : Expr} {te : TE} {a : AE'} (h : AE B X e te a) (hK : X.K = K := by rfl) : AI B X tg e (iAny K te) (aIA a) := by
  subst hK
  exact ⟨pi_any h.pe, by
  intro σ s F C R H Q P hs hS h0 k
  refine h.sim σ s F C R H _ _ hs hS h0 fun x v F1 C1 H1 e1 S1 r1 h1 => ?_
  split at h1
  · rename_i ds q
    cases x with
    | str z =>
      cases r1
      cases q
      refine .inr (.inr ⟨z, rfl, k _ _ _ F1 C1 H1 e1 S1 ⟨fun F' C' R' H' e S _ => ?_, fun F' C' R' H' i e S _ hi => ?_, fun F' C' R' H' i x H'' e S _ hi y => ?_⟩ h1⟩)
      · unfold signs; rw [List.length_map, Array.length_toList]; exact Nat.le_refl _
      · unfold signs at hi; rw [List.length_map, Array.length_toList] at hi; exact hi
      · obtain ⟨e3, c, y1, y2⟩ := y
        subst e3; subst y2
        refine ⟨_, F', ?_, Ex.refl F', S, .str _⟩
        unfold signs
        rw [List.getElem?_map, Array.getElem?_toList, y1]
        rfl
    | tup us =>
      cases q
      have q : asT (.tup ds) = some ds := rfl
      obtain ⟨b, xs, e2, h2, h3⟩ := asT_ok S1 r1 q
      refine .inr (.inl ⟨b, e2, ⟨xs, SqT.of h2⟩, k ds _ _ F1 C1 H1 e1 S1 ⟨fun F' C' R' H' e S _ => ?_, fun F' C' R' H' i e S _ hi => ?_, fun F' C' R' H' i x H'' e S _ hi y => ?_⟩ h1⟩)
      · obtain ⟨b', xs', e2', h2', h3'⟩ := asT_ok S (r1.mono e) q
        rw [e2] at e2'; cases e2'
        exact ⟨xs', SqT.of h2', by rw [h3'.length]; exact Nat.le_refl _⟩
      · obtain ⟨b', xs', e2', h2', h3'⟩ := asT_ok S (r1.mono e) q
        rw [e2] at e2'; cases e2'
        exact ⟨xs', xs'[i]'(by rw [h3'.length]; exact hi), SqT.of h2', by simp⟩
      · obtain ⟨b', xs', e2', h2', h3'⟩ := asT_ok S (r1.mono e) q
        rw [e2] at e2'; cases e2'
        obtain ⟨e3, y⟩ := y
        subst e3
        obtain ⟨d, h4, h5⟩ := h3'.get (y xs' (SqT.of h2'))
        exact ⟨d, F', h4, Ex.refl F', S, h5⟩
    | lst us =>
      obtain ⟨b, xs, e2, h2, h3⟩ := asLr_ok S1 r1 q
      exact .inl ⟨b, e2, ⟨xs, h2⟩, k ds _ _ F1 C1 H1 e1 S1 (walk_l fun F' C' R' H' e' S' hc => asL_later S1 r1 q e' S' hc b e2) h1⟩
    | ce p =>
      obtain ⟨b, xs, e2, h2, h3⟩ := asLr_ok S1 r1 q
      exact .inl ⟨b, e2, ⟨xs, h2⟩, k ds _ _ F1 C1 H1 e1 S1 (walk_l fun F' C' R' H' e' S' hc => asL_later S1 r1 q e' S' hc b e2) h1⟩
    | scr ns =>
      obtain ⟨b, xs, e2, h2, h3⟩ := asLr_ok S1 r1 q
      exact .inl ⟨b, e2, ⟨xs, h2⟩, k ds _ _ F1 C1 H1 e1 S1 (walk_l fun F' C' R' H' e' S' hc => asL_later S1 r1 q e' S' hc b e2) h1⟩
    | _ => cases q
  · exact h1.elim⟩
end
section
variable {C : AH} {e : AE'} {s : ASt} {PI : List D → (AH → Prop) → AH → Prop}
def kIA (PI : List D → (AH → Prop) → AH → Prop) : D → AH → Prop := fun x C1 => match srcD C1 x with | some ds => PI ds (fun C' => srcD C' x = some ds) C1 | none => False
theorem g_ia (h : e s C (kIA PI)) : aIA e s C PI := h
theorem g_kIA {x : D} {us : List D} (h : srcD C x = some us) (k : PI us (fun C' => srcD C' x = some us) C) : kIA PI x C := by
  unfold kIA
  rw [h]
  exact k
end
end AL

namespace AL
open PySem PySem.Spec PyProof.Rows L2
variable {B : Bs}
/-! ### sum of a list of numbers and truths -/
def IV (v : Value) (x : Int) : Prop := (∃ t, v = .int x t) ∨ ∃ b : Bool, v = .bool b ∧ x = if b = true then 1 else 0
section
variable {prog : Program} {w : World} {A : Around} {E : Value → Shared → Prop} {s : Shared}
theorem addIV {v : Value} {x a : Int} {t : Tok} {Q : Value → Shared → Prop} (hv : IV v x) (h : Q (.int (a + x) s.toks) { s with toks := s.toks + 1 }) : wpAny (model prog w) A (binaryOp .Add (.int a t) v) Q E s := by
  rcases hv with ⟨u, e⟩ | ⟨b, e, e2⟩
  · subst e; exact wpAny_add_int h
  · subst e; subst e2; exact PySem.add_int_bool h
end
section
variable {prog : Program} {w : World} {A : Around} {R : Result → Shared → Prop} {I : Addr} {fp wr : List Addr} {G : Array GenState → Array GenState → Prop} {n : Nat} {P : Nat → Value → Prop} {St : Nat → Shared → Prop}
theorem sumB (W : WalksS prog w A.in1 I fp wr G n P St) (val : Nat → Int) (hval : ∀ i v, P i v → IV v (val i)) (S : Addr) (hSf : S ∉ fp) : ∀ (k i : Nat), n - i = k → i ≤ n → ∀ (s : Shared) (tA : Tok) (c : Nat) (st : Int), (st = 0 ∨ st = 2) → St i s →
    s.heap.get? S = some { cls := .type "list", dict := none, data := .seq #[.int (preSum val i) tA] c, slots := #[] } →
    (∀ z t', Moved (S :: wr) G s z → R (.ok (.ret (.int (preSum val n) t'))) z) → codeAny (model prog w) A (.builtin "sum.loop" ⟨[.ref I, .ref S, rawInt st, rawInt 0], []⟩) R s := by
  have hSw : S ∉ wr := fun y => hSf (W.sub _ y)
  have hin : ∀ b ∈ wr, b ∈ S :: wr := fun b y => List.mem_cons_of_mem _ y
  have hSb : ∀ b ∈ fp, S ≠ b := fun b y e => hSf (e ▸ y)
  have hSc : ∀ b, b ∉ S :: wr → S ≠ b := fun b y e => y (e ▸ List.mem_cons_self)
  intro k
  induction k with
  | zero =>
    intro i hk hi s tA c st h02 hst hS hR
    obtain rfl : i = n := by omega
    refine codeAny_builtin (b := Builtin.«sum.loop») F.entry_sum_loop ?_; rw [Around.under_plainId F.plain_sum_loop]
    refine wpAny_bind (m := seqItems? (.ref S)) (wpAny_seqItems hS rfl (wpAny_bind (m := tryCatch (pyNext (.ref I)) _) ?_))
    exact wpAny_tryCatch (W.done s _ _ hst fun z hm => wpAny_pure (hR z tA (hm.mono hin)))
  | succ k ih =>
    intro i hk hi s tA c st h02 hst hS hR
    have hlt : i < n := by omega
    refine codeAny_builtin (b := Builtin.«sum.loop») F.entry_sum_loop ?_; rw [Around.under_plainId F.plain_sum_loop]
    refine wpAny_bind (m := seqItems? (.ref S)) (wpAny_seqItems hS rfl (wpAny_bind (m := tryCatch (pyNext (.ref I)) _) ?_))
    refine wpAny_tryCatch (W.item i s _ _ hlt hst fun v z hP hst' hm => ?_)
    have hv := hval i v hP
    have hS' := hm.heap S _ hSw hS
    have go : ∀ (X : Shared) (f : Int) (c2 : Nat) (r : Int) (tr : Tok), (f = 0 ∨ f = 2) → r = preSum val i + val i → (Moved (S :: wr) G s X) → St (i + 1) X → X.heap.get? S = some { cls := .type "list", dict := none, data := .seq #[.int r tr] c2, slots := #[] } →
        codeAny (model prog w) A (.builtin "sum.loop" ⟨[.ref I, .ref S, rawInt f, rawInt 0], []⟩) R X := fun X f c2 r tr hf hr hm1 hs1 hS1 => by
      subst hr
      exact ih (i + 1) (by omega) hlt X tr c2 f hf hs1 hS1 fun y t2 hm2 => hR y t2 (Moved.trans W.gtrans hm1 hm2)
    have up1 : ∀ (h' : Heap) (tk : Tok), (∀ b, S ≠ b → ∀ o, z.heap.get? b = some o → h'.get? b = some o) → z.toks ≤ tk → Moved (S :: wr) G s { z with heap := h', toks := tk } ∧ St (i + 1) { z with heap := h', toks := tk } := fun h' tk hh ht =>
      ⟨(hm.mono hin).then_heap ht fun b o hb e => hh b (hSc b hb) o e, W.frame _ z _ _ hst' ht fun b hb o e => hh b (hSb b hb) o e⟩
    have o1 : ∀ (f : Obj → Obj) (b : Addr), S ≠ b → ∀ o, z.heap.get? b = some o → (z.heap.update S f).get? b = some o := fun f b hb o e => (Heap.get?_update_other _ _ hb).trans e
    have x1 : ∀ (r : Int), r = preSum val i + val i → wpAny (model prog w) A.in1 (mkInt r) (fun a s' => ∃ t, a = .int r t ∧ s' = { z with toks := z.toks + 1 }) (fun _ _ => False) z := fun r hr => wpAny_mkInt ⟨_, rfl, rfl⟩
    have slow : ∀ v : Value, IV v (val i) → ∀ (Q : Fin → Shared → Prop) (E : Value → Shared → Prop), (∀ X, codeAny (model prog w) A (.builtin "sum.loop" ⟨[.ref I, .ref S, rawInt 2, rawInt 0], []⟩) R X → Q (.again (.builtin "sum.loop" ⟨[.ref I, .ref S, rawInt 2, rawInt 0], []⟩)) X) → wpAny (model prog w) A.in1 ((holding [v] (binaryOp .Add (.int (preSum val i) tA) v)).attempt >>= fun q => match q with
        | .ok r => do updateSeq S fun _ => #[r]; letGo [Value.int (preSum val i) tA, v]; updateSeq S fun _ => #[r]; again (.builtin "sum.loop" ⟨[.ref I, .ref S, rawInt 2, rawInt 0], []⟩)
        | .error e => do updateSeq S fun _ => #[]; letGo [Value.int (preSum val i) tA, v] [e]; throw e) Q E z := fun v hv Q E hQ => by
      refine wpAny_bind (wpAny_attempt (wpAny_holding (addIV hv ?_)))
      show wpAny _ A.in1 (updateSeq S (fun _ => #[Value.int (preSum val i + val i) z.toks]) >>= _) _ _ _
      have h2 := Heap.get?_update_self (Obj.mapSeq fun _ => #[Value.int (preSum val i + val i) z.toks]) hS' rfl
      refine wpAny_bind (wpAny_updateSeq hS' rfl (wpAny_bind (wpAny_letGo (wpAny_bind (wpAny_updateSeq h2 rfl (wpAny_pure (hQ _ ?_)))))))
      obtain ⟨u1, u2⟩ := up1 ((z.heap.update S (Obj.mapSeq fun _ => #[Value.int (preSum val i + val i) z.toks])).update S (Obj.mapSeq fun _ => #[Value.int (preSum val i + val i) z.toks])) (z.toks + 1) (fun b hb o e => (Heap.get?_update_other _ _ hb).trans (o1 _ b hb o e)) (by omega)
      exact go _ 2 _ _ _ (.inr rfl) rfl u1 u2 (Heap.get?_update_self _ h2 rfl)
    rcases h02 with e0 | e0
    · subst e0
      have hr : ∀ b : Bool, val i = (if b = true then 1 else 0) → (preSum val i + if b = true then 1 else 0) = preSum val i + val i := fun b e => by rw [e]
      rcases hv with ⟨t, rfl⟩ | ⟨b, rfl, e⟩
      · show wpAny _ A.in1 (if (_ : Bool) = true then (mkInt (preSum val i + val i) >>= _) else _) _ _ _
        refine wpAny_ite_split (fun _ => ?_) (fun _ => ?_)
        · refine wpAny_bind (wpAny_mkInt (wpAny_bind (m := updateSeq S _) ?_))
          obtain ⟨u1, u2⟩ := up1 (z.heap.update S (Obj.mapSeq fun _ => #[Value.int (preSum val i + val i) z.toks])) (z.toks + 1) (o1 _) (by omega)
          exact wpAny_updateSeq hS' rfl (wpAny_pure ⟨plainId_quiet F.plain_sum_loop _, go _ 0 _ _ _ (.inl rfl) rfl u1 u2 (Heap.get?_update_self _ hS' rfl)⟩)
        · exact wpAny_bind (wpAny_rule (slow (Value.int (val i) t) (.inl ⟨t, rfl⟩) _ _ fun X h => ⟨plainId_quiet F.plain_sum_loop _, h⟩))
      · show wpAny _ A.in1 (if (_ : Bool) = true then (mkInt (preSum val i + if b = true then 1 else 0) >>= _) else _) _ _ _
        refine wpAny_ite_split (fun _ => ?_) (fun _ => ?_)
        · refine wpAny_bind (wpAny_mkInt (wpAny_bind (m := updateSeq S _) ?_))
          obtain ⟨u1, u2⟩ := up1 (z.heap.update S (Obj.mapSeq fun _ => #[Value.int (preSum val i + if b = true then 1 else 0) z.toks])) (z.toks + 1) (o1 _) (by omega)
          exact wpAny_updateSeq hS' rfl (wpAny_pure ⟨plainId_quiet F.plain_sum_loop _, go _ 0 _ _ _ (.inl rfl) (hr b e) u1 u2 (Heap.get?_update_self _ hS' rfl)⟩)
        · exact wpAny_bind (wpAny_rule (slow (Value.bool b) (.inr ⟨b, rfl, e⟩) _ _ fun X h => ⟨plainId_quiet F.plain_sum_loop _, h⟩))
    · subst e0
      rcases hv with ⟨t, rfl⟩ | ⟨b, rfl, e⟩
      · exact slow (Value.int (val i) t) (.inl ⟨t, rfl⟩) _ _ fun X h => ⟨plainId_quiet F.plain_sum_loop _, h⟩
      · exact slow (Value.bool b) (.inr ⟨b, rfl, e⟩) _ _ fun X h => ⟨plainId_quiet F.plain_sum_loop _, h⟩
end
section
variable {prog : Program} {w : World} {A : Around} {E : Value → Shared → Prop} {s : Shared}
theorem callSumB {x : Value} {Q : Value → Shared → Prop}
    (h : wpAny (model prog w) A.in1 (pyIter x) (fun it z => ∃ I fp wr G n P St val, it = .ref I ∧ WalksS prog w A.in1 I fp wr G n P St ∧ St 0 z ∧ (∀ b ∈ fp, b < z.heap.objs.size) ∧
      (∀ i v, P i v → IV v (val i)) ∧ ∀ z' t', Moved wr G z z' → Q (.int (preSum val n) t') z') E s) : wpAny (model prog w) A (call (.builtin "sum") [x]) Q E s := by
  refine call_function_tree (b := Builtin.«sum») F.kind_sum F.plain_sum F.entry_sum (F.args_sum1 _) ?_; unfold Builtin.«sum»
  simp only [List.length_cons, List.length_nil]; rw [if_neg (by decide)]
  refine wpAny_bind (wpAny_of_eq (t := Builtin.Builtins.bindParams "sum" ["start"] 0 { }) (a := [none]) rfl ?_); refine wpAny_bind (wpAny_mono h (fun it z h2 => ?_) fun _ _ y => y)
  obtain ⟨I, fp, wr, G, n, P, St, val, rfl, W, hst, hfp, hval, hQ⟩ := h2
  refine wpAny_bind (wpAny_mkInt (wpAny_bind (wpAny_pure ?_))); simp only [List.forIn_cons, List.forIn_nil]
  refine wpAny_bind (wpAny_bind (wpAny_bind (wpAny_isInstance (T := "int") (b := false) (typeIs_int _ _ _) PySem.sub_int_str ?_))); simp only [Bool.false_eq_true, if_false]
  refine wpAny_pure (wpAny_bind (wpAny_bind (wpAny_isInstance (T := "int") (b := false) (typeIs_int _ _ _) PySem.sub_int_bytes ?_))); simp only [Bool.false_eq_true, if_false]
  refine wpAny_pure (wpAny_bind (wpAny_bind (wpAny_isInstance (T := "int") (b := false) (typeIs_int _ _ _) PySem.sub_int_bytearray ?_))); simp only [Bool.false_eq_true, if_false]
  refine wpAny_pure (wpAny_pure (wpAny_bind (wpAny_newObj_type ?_)))
  have hSf : z.heap.objs.size ∉ fp := fun y => Nat.lt_irrefl _ (hfp _ y)
  refine wpAny_pure ⟨plainId_quiet F.plain_sum_loop _, sumB W val hval z.heap.objs.size hSf n 0 rfl (Nat.zero_le _) _ z.toks 0 0 (.inl rfl) (W.frame 0 z _ _ hst (Nat.le_succ _) fun b _ o e => Heap.get?_push_of_some _ e) (Heap.get?_push_size _ rfl) fun z' t' hm => ?_⟩
  exact hQ z' t' (hm.drop_new (Nat.le_succ _))
end
/-- the number that a number, or a truth, is in a sum -/
def numV : V → Option Int
  | .int i => some i
  | .bl b => some (if b = true then 1 else 0)
  | _ => none
def numD : D → Option Int
  | .int i => some i
  | .bl b => some (if b = true then 1 else 0)
  | _ => none
theorem iv_of {v : V} {u : Value} {x : Int} (r : RelV v u) (h : numV v = some x) : IV u x := by
  cases v with
  | int i => cases h; obtain ⟨t, e⟩ := r; exact .inl ⟨t, e⟩
  | bl b => cases h; exact .inr ⟨b, r, rfl⟩
  | _ => cases h
def sumV : List V → Option (List Int) := fun vs => vs.mapM numV
def numsD : List D → Option (List Int)
  | [] => some []
  | d :: ds => match numD d, numsD ds with | some x, some xs => some (x :: xs) | _, _ => none
def numsV : List V → Option (List Int)
  | [] => some []
  | d :: ds => match numV d, numsV ds with | some x, some xs => some (x :: xs) | _, _ => none
theorem numsV_at : ∀ {vs : List V} {us : List Value} {ns : List Int} {i : Nat} {u : Value}, Vals vs us → numsV vs = some ns → us[i]? = some u → IV u (ns.getD i 0)
  | [], _, _, _, _, r, h, e => by cases r; simp at e
  | v :: vs, u :: us, ns, i, x, r, h, e => by
    unfold numsV at h
    split at h
    · rename_i a b q1 q2
      cases h
      cases r with
      | cons r1 r2 =>
        cases i with
        | zero => simp at e; subst e; simpa using iv_of r1 q1
        | succ i => simpa using numsV_at (i := i) r2 q2 (by simpa using e)
    · cases h
theorem numsV_len : ∀ {vs : List V} {ns : List Int}, numsV vs = some ns → vs.length = ns.length
  | [], _, h => by cases h; rfl
  | v :: vs, ns, h => by
    unfold numsV at h
    split at h
    · rename_i a b q1 q2
      cases h
      rw [List.length_cons, List.length_cons, numsV_len q2]
    · cases h
theorem nums_rep {K : PySem.W.Frag} {F : Hp} : ∀ {vs : List V} {ds : List D} {ns : List Int}, RepL K F vs ds → numsD ds = some ns → numsV vs = some ns
  | [], _, _, r, h => by cases r; exact h
  | v :: vs, _, ns, r, h => by
    cases r with
    | cons r1 r2 =>
      unfold numsD at h
      split at h
      · rename_i a b q1 q2
        cases h
        unfold numsV
        rw [nums_rep r2 q2]
        have e : numV v = some a := by
          cases r1 <;> first | exact q1 | cases q1
        rw [e]
      · cases h
def rSumG (K : PySem.W.Frag) : List V → Hp → VK → Prop := fun vs H Q => ∃ (a : Addr) (xs : List V) (ns : List Int), vs = [V.ref a] ∧ SqL K H a xs ∧ numsV xs = some ns ∧ Q (.int ns.sum) H
section
variable {X : Cx} {K : PySem.W.Frag}
theorem cr_sumG (hc : X.calm = true) : CallR X (.builtin "sum") (rSumG X.K) := by
  intro pins s σ H vs us Q I r h
  obtain ⟨a, xs, ns, rfl, hs, hn, q⟩ := h
  obtain ⟨its, rv, hl, _⟩ := I.list hs
  rw [Vals.ref1 r]
  have hL : s.heap.IsList a its.toArray := hl.isList
  obtain ⟨o, ho, hcl, n, hd⟩ := id hL
  have hne : a ≠ s.heap.objs.size := Nat.ne_of_lt (Heap.lt_size ho)
  have hlen : its.length = ns.length := by rw [← rv.length, numsV_len hn]
  have W := (PySem.Walks.list (prog := X.prog) (w := X.w) (A := X.A.in1) (I.ok.hd hc) s.heap.objs.size a hne its.toArray).toS
  refine callSumB (wpAny_pyIter_list hL ?_)
  refine ⟨s.heap.objs.size, _, _, _, _, _, _, fun i => ns.getD i 0, rfl, W, ⟨⟨_, Heap.get?_push_size _ rfl, rfl, rfl⟩, hL.at fun o e => Heap.get?_push_of_some _ e⟩, fun b hb => ?_, fun i v hP => ?_, fun z' t' hm => ?_⟩
  · rcases List.mem_cons.mp hb with rfl | hb
    · exact Heap.lt_size (Heap.get?_push_size _ rfl)
    · cases (List.mem_singleton.mp hb); exact Heap.lt_size (Heap.get?_push_of_some _ ho)
  · exact numsV_at rv hn (by simpa using hP)
  · obtain ⟨h', g', d', tk', os'⟩ := z'
    cases (show g' = s.gens from hm.gens); cases (show d' = s.drawn from hm.drawn); cases (show os' = s.os from hm.os)
    refine ⟨.int _, H, I.kept fun b o e => hm.heap b o (fun hb => ?_) (Heap.get?_push_of_some _ e), ⟨_, rfl⟩, ?_⟩
    · cases (List.mem_singleton.mp hb); exact absurd (Heap.lt_size e) (Nat.lt_irrefl _)
    · rw [PyProof.Rows.preSum_getD, List.size_toArray, hlen, List.take_length]; exact q
def aSumG : ASp := fun ds C P => match ds with | [d] => (match (asLr C d).bind numsD with | some bs => P (.int bs.sum) C | none => False) | _ => False
theorem ac_sumG (hc : X.calm = true := by rfl) (hK : X.K = K := by rfl) : ACa B X (.builtin "sum") (rSumG K) aSumG := by
  subst hK
  exact ⟨cr_sumG hc, by
  intro vs ds F C R H Q P hS r h k
  unfold aSumG at h
  split at h
  · cases r with
    | cons r1 r2 =>
      cases r2
      split at h
      · rename_i bs q
        obtain ⟨us, q1, q2⟩ := Option.bind_eq_some_iff.mp q
        obtain ⟨a, xs, e1, h1, h2⟩ := asLr_ok hS r1 q1
        exact ⟨a, xs, bs, by rw [e1], h1, nums_rep h2 q2, k _ _ F C H (Ex.refl F) hS (.int _) h⟩
      · exact h.elim
  · exact h.elim⟩
end
theorem g_sumG {C : AH} {P : D → AH → Prop} {us : List D} {bs : List Int} (h1 : numsD us = some bs) (h : P (.int bs.sum) C) : aSumG [.lst us] C P := by
  show (match (some us).bind numsD with | some bs => P (.int bs.sum) C | none => False)
  rw [Option.bind_some, h1]; exact h
theorem numsD_all {ds : List D} (h : ∀ d ∈ ds, ∃ x, numD d = some x) : ∃ bs, numsD ds = some bs := by
  induction ds with
  | nil => exact ⟨[], rfl⟩
  | cons d ds ih =>
    obtain ⟨x, hx⟩ := h d (by simp)
    obtain ⟨bs, hb⟩ := ih fun d hd => h d (by simp [hd])
    exact ⟨x :: bs, by simp [numsD, hx, hb]⟩
end AL

namespace AL
open PySem PySem.Spec PyProof.Rows L2
variable {B : Bs}
/-! ### len(set(text)) -/
def ddS (σ : List Str) (v : Str) : List Str := if σ.any (· == v) then σ else σ ++ [v]
def dd (xs : List Str) : List Str := xs.foldl ddS []
theorem dd_snoc (xs : List Str) (v : Str) : dd (xs ++ [v]) = ddS (dd xs) v := by unfold dd; rw [List.foldl_append]; rfl
theorem ddS_any (σ : List Str) (v k : Str) : (ddS σ v).any (· == k) = (σ.any (· == k) || decide (k = v)) := by
  unfold ddS
  by_cases h : σ.any (· == v) = true
  · rw [if_pos h]
    by_cases e : k = v
    · rw [e, h]; simp
    · simp [e]
  · rw [if_neg h, List.any_append]
    by_cases e : k = v
    · rw [e]; simp
    · have hb : (v == k) = false := by simpa [beq_iff_eq] using (fun q : v = k => e q.symm)
      simp [hb, e]
theorem ddS_len (σ : List Str) (v : Str) : (ddS σ v).length = if σ.any (· == v) then σ.length else σ.length + 1 := by unfold ddS; split <;> simp
theorem foldl_le : ∀ (xs σ : List Str), (xs.foldl ddS σ).length ≤ σ.length + xs.length
  | [], σ => Nat.le_refl _
  | x :: xs, σ => by
    rw [List.foldl_cons, List.length_cons]
    have := foldl_le xs (ddS σ x)
    rw [ddS_len] at this
    split at this <;> omega
theorem dd_le (xs : List Str) : (dd xs).length ≤ xs.length := by
  have := foldl_le xs []
  rw [List.length_nil, Nat.zero_add] at this
  exact this
/-- the signs of a text, as texts -/
def sgS (z : Str) : List Str := z.cps.toList.map fun c => ⟨#[c]⟩
theorem sgS_len (z : Str) : (sgS z).length = z.length := by unfold sgS; rw [List.length_map, Array.length_toList]; rfl
section
variable {prog : Program} {w : World} {A : Around} {R : Result → Shared → Prop} {I : Addr} {fp wr : List Addr} {G : Array GenState → Array GenState → Prop} {n : Nat} {P : Nat → Value → Prop} {St : Nat → Shared → Prop}
abbrev SetS (prog : Program) (w : World) (h : Heap) (S : Addr) (xs : List Str) : Prop := h.SetOf (PySem.strKind prog w) S (fun k => (dd xs).any (· == k)) (dd xs).length
theorem SetS.keep {h h' : Heap} {S : Addr} {xs : List Str} (q : SetS prog w h S xs) (hk : ∀ o, h.get? S = some o → h'.get? S = some o) : SetS prog w h' S xs := by
  obtain ⟨o, es, ep, t, ho, r⟩ := q
  exact ⟨o, es, ep, t, hk _ ho, r⟩
theorem setLoop (W : WalksS prog w A.in1 I fp wr G n P St) (S : Addr) (hSf : S ∉ fp) (xs : List Str) (hxs : xs.length = n) (hval : ∀ i v, P i v → ∃ t z, xs[i]? = some z ∧ v = .str z t) (hb : n + 1 < scanBound) : ∀ (k i : Nat), n - i = k → i ≤ n → ∀ (s : Shared), St i s → SetS prog w s.heap S (xs.take i) →
    (∀ z, Moved (S :: wr) G s z → SetS prog w z.heap S xs → R (.ok (.ret .none)) z) → codeAny (model prog w) A (.builtin "set.update.loop" ⟨[.ref S, .ref I], []⟩) R s := by
  have hSw : S ∉ wr := fun y => hSf (W.sub _ y)
  have hin : ∀ b ∈ wr, b ∈ S :: wr := fun b y => List.mem_cons_of_mem _ y
  intro k
  induction k with
  | zero =>
    intro i hk hi s hst hS hR
    obtain rfl : i = n := by omega
    refine codeAny_builtin (b := Builtin.«set.update.loop») PyProof.Rows.F.entry_set_update_loop ?_; rw [Around.under_plainId PyProof.Rows.F.plain_set_update_loop]
    refine wpAny_bind (m := pyNext (.ref I)) (W.done s _ _ hst fun z hm => wpAny_pure (hR z (hm.mono hin) ?_))
    rw [← hxs, List.take_length] at hS
    exact hS.keep fun o e => hm.heap S _ hSw e
  | succ k ih =>
    intro i hk hi s hst hS hR
    have hlt : i < n := by omega
    refine codeAny_builtin (b := Builtin.«set.update.loop») PyProof.Rows.F.entry_set_update_loop ?_; rw [Around.under_plainId PyProof.Rows.F.plain_set_update_loop]
    refine wpAny_bind (m := pyNext (.ref I)) (W.item i s _ _ hlt hst fun v y hP hst' hm => ?_)
    obtain ⟨t, z, hz, rfl⟩ := hval i v hP
    have hS' : SetS prog w y.heap S (xs.take i) := hS.keep fun o e => hm.heap S _ hSw e
    show wpAny _ A.in1 (holding [Value.str z t] (setAdd S (.str z t)) >>= _) _ _ y
    refine wpAny_bind (wpAny_holding ?_); unfold setAdd
    refine wpAny_holding (wpAny_bind ((PySem.strKind prog w).pyHash (k := z) (strKind_is _ _ _ _) ?_))
    have hroom : (dd (xs.take i)).length + 1 < scanBound := by have := dd_le (xs.take i); rw [List.length_take] at this; omega
    refine wpAny_setAddHashed_of (knd := PySem.strKind prog w) (s := { y with toks := y.toks + 1 }) (strKind_is _ _ _ _) rfl hS' hroom fun h' hsb hS2 => ?_
    have e1 : xs.take (i + 1) = xs.take i ++ [z] := by rw [List.take_add_one, hz]; rfl
    have hSi : SetS prog w h' S (xs.take (i + 1)) := SetOf_congr hS2 (fun k' => by rw [e1, dd_snoc, ddS_any]) (by rw [e1, dd_snoc, ddS_len])
    refine wpAny_pure ⟨plainId_quiet PyProof.Rows.F.plain_set_update_loop _, ih (i + 1) (by omega) hlt _ (W.frame _ y _ _ hst' (Nat.le_succ _) fun b hb o e => ?_) hSi fun z2 hm2 hS3 => ?_⟩
    · rw [hsb.2 b (fun q : b = S => hSf (by rw [← q]; exact hb))]; exact e
    · refine hR z2 (Moved.trans W.gtrans ((hm.mono hin).then_heap (Nat.le_succ _) fun b o hb e => ?_) hm2) hS3
      rw [hsb.2 b (fun q : b = S => hb (by rw [q]; exact List.mem_cons_self))]; exact e
end
section
variable {prog : Program} {w : World} {A : Around} {E : Value → Shared → Prop} {s : Shared}
set_option maxHeartbeats 3200000 in
theorem callSetStr {x : Str} {t : Tok} {Q : Value → Shared → Prop} (hh : A.handled = none) (hb : x.length + 1 < scanBound)
    (h : ∀ (h' : Heap) (tk : Nat), SetS prog w h' s.heap.objs.size (sgS x) → (∀ b o, b < s.heap.objs.size → s.heap.get? b = some o → h'.get? b = some o) → Q (.ref s.heap.objs.size) { s with heap := h', toks := tk }) :
    wpAny (model prog w) A (call (.type "set") [.str x t]) Q E s := by
  obtain ⟨c, tl, hmro⟩ := PySem.F.called_set.mro
  have hmade := PySem.F.called_set.made; have hsub := PySem.F.called_set.sub
  refine wpAny_call (codeAny_of_tree (show wpAny _ _ (callAny (.type "set") _) _ _ _ from ?_))
  refine wpAny_pure ⟨Code.quiet_builtin _ (by decide +kernel), codeAny_builtin PySem.F.entry_type_call ?_⟩; rw [Around.under_plain (weight_type_call_type "set" [.str x t] []) rfl]
  have h1 := PySem.F.called_set.notType; have h2 := PySem.F.called_set.canCreate; have hct := PySem.F.typeCall_set_1 (.str x t)
  repeat (any_goals first | assumption | wp_step)
  let fo : Bool → Obj := fun led => { cls := .type "set", dict := none, data := .set #[] 0 (.fresh 0 0 led) }
  refine codeAny_mono (code_set_new_1 (.str x t) (E := E) (Q₁ := fun obj z => ∃ led : Bool, obj = .ref s.heap.objs.size ∧ z = { s with heap := s.heap.push (fo led) }) fun led => ⟨led, rfl, rfl⟩) fun r s₁ hr => ?_
  cases r with
  | error e => exact hr
  | ok fl =>
    cases fl with
    | ret obj =>
      obtain ⟨led, rfl, rfl⟩ := hr
      have hS : (s.heap.push (fo led)).get? s.heap.objs.size = some (fo led) := Heap.get?_push_size _ rfl
      have hT : Shared.TypeIs { s with heap := s.heap.push (fo led) } (.ref s.heap.objs.size) "set" := ⟨_, hS, rfl⟩
      have hli := PySem.F.called_set.init.lookup; have hbi := PySem.F.called_set.init.bind (.ref s.heap.objs.size)
      repeat (any_goals first | assumption | wp_step)
      refine codeAny_mono (codeAny_call_builtin (R := wants (fun r z => r = .none ∧ ∃ h' tk, z = { s with heap := h', toks := tk } ∧ SetS prog w h' s.heap.objs.size (sgS x) ∧ (∀ b o, b < s.heap.objs.size → s.heap.get? b = some o → h'.get? b = some o)) E) PySem.F.called_set.init.plain PySem.F.entry_set_init (check_set_init_1 hT ?_)) fun r₂ s₂ hr₂ => ?_
      · have hsls := PySem.F.sub_str_set; have hslf := PySem.F.sub_str_frozenset
        have hne : (Value.type "str" == Value.type "dict") = false := by decide
        unfold Builtin.«set.__init__» noKeywords Builtin.Frozenset.updateFrom
        generalize hPI : pyIter = PI
        wp_walk
        subst hPI
        refine PySem.wpAny_pyIter_str fun o St hW hst => ?_
        refine wpAny_bind (wpAny_runValue ?_)
        have hh3 : A.in1.in1.in1.handled = none := by simp [hh]
        have hne2 : s.heap.objs.size ∉ [(s.heap.push (fo led)).objs.size] := by
          rw [Heap.size_push, List.mem_singleton]; exact Nat.ne_of_lt (Nat.lt_succ_self _)
        refine setLoop (hW _ hh3).toS s.heap.objs.size hne2 (sgS x) (by rw [sgS_len]; rfl) (fun i v hv => ?_) hb (x.cps.size - 0) 0 (by omega) (Nat.zero_le _) _ hst ?_ fun z hm hS3 => ?_
        · obtain ⟨c, u, e1, e2⟩ := hv
          exact ⟨u, _, by unfold sgS; rw [List.getElem?_map, Array.getElem?_toList, e1]; rfl, e2⟩
        · have hget : ((s.heap.push (fo led)).push o).get? s.heap.objs.size = some (fo led) := Heap.get?_push_of_some _ hS
          exact PyProof.Rows.SetOf_congr ((PyProof.Rows.setObjOf_fresh (knd := PySem.strKind prog w) led).setOf hget (by unfold scanBound; omega)) (fun _ => rfl) rfl
        · obtain ⟨h', g', d', tk', os'⟩ := z
          cases (show g' = s.gens from hm.gens); cases (show d' = s.drawn from hm.drawn); cases (show os' = s.os from hm.os)
          refine wpAny_pure (wpAny_pure ⟨rfl, h', tk', rfl, hS3, fun b o2 hb e => ?_⟩)
          have hb1 : b ≠ s.heap.objs.size := Nat.ne_of_lt hb
          have hb2 : b ≠ (s.heap.push (fo led)).objs.size := by rw [Heap.size_push]; exact Nat.ne_of_lt (Nat.lt_succ_of_lt hb)
          exact hm.heap b o2 (by simp only [List.mem_cons, List.mem_singleton, List.not_mem_nil, or_false, not_or]; exact ⟨hb1, hb2⟩) (Heap.get?_push_of_some _ (Heap.get?_push_of_some _ e))
      · cases r₂ with
        | error e => exact hr₂
        | ok fl₂ =>
          cases fl₂ with
          | ret r =>
            obtain ⟨rfl, h', tk, rfl, hS', hk'⟩ := hr₂
            repeat (any_goals first | assumption | wp_step)
            exact h _ _ hS' hk'
          | _ => exact hr₂.elim
    | _ => exact hr.elim
end
end AL

namespace AL
open PySem PySem.Spec PyProof.Rows L2
variable {B : Bs}
def tLenSetT (ta : TE) : TE := fun σ H Q => ta σ H fun x H1 => ∃ z, x = .str z ∧ z.length ≤ 4000 ∧ Q (.int (dd (sgS z)).length) H1
section
variable {X : Cx} {K : PySem.W.Frag}
theorem pe_lenSetT {a : Expr} {ta : TE} {p p2 q pos : Pos} (hm : X.mg "len" = none) (hm2 : X.mg "set" = none) (ha : PE X a ta) (hc : X.calm = true := by rfl) (hg : Gl X "len" := by rfl) (hg2 : Gl X "set" := by rfl)
    (na : starEach [a] X.env = (false, eval a X.env) :: starEach [] X.env := by rfl) : PE X (.Call (.Name "len" p) [.Call (.Name "set" p2) [a] [] q] [] pos) (tLenSetT ta) := by
  refine ⟨fun pins s σ H Q I h => PyProof.Rows.Call_ (ld_blt I hg hm boot_len (PyProof.Rows.callWith_builtin1 (PyProof.Rows.args_cons (PyProof.Rows.Call_ (ld_blt I hg2 hm2 boot_set ?_)) rfl) rfl rfl))⟩
  refine PyProof.Rows.callWith_type1 (PyProof.Rows.args_cons (thn (ha.run pins s σ H _ I h) fun v s1 ⟨x, H1, I1, r1, q1⟩ => PyProof.Rows.args_nil ?_) na) na rfl
  obtain ⟨z, rfl, hz, q1⟩ := q1
  obtain ⟨t, rfl⟩ := r1
  refine callSetStr (I1.ok.hd hc) (by unfold scanBound; omega) fun h' tk hS hk => PyProof.Rows.args_nil ?_
  have hle := dd_le (sgS z)
  rw [sgS_len] at hle
  obtain ⟨o, es, ep, tb, ho, hex, hd, _, _, _, hf, hn⟩ := hS
  have I2 : Inv X pins σ H1 { s1 with heap := h', toks := tk } := I1.kept fun b o e => hk b o (Heap.lt_size e) e
  exact call_len_set ho hex hd hf (by rw [hn] <;> omega) ⟨.int (dd (sgS z)).length, H1, I2.tok _, ⟨_, by rw [hn]⟩, q1⟩
def aLenSet (a : AE') : AE' := fun s C P => a s C fun x C1 => match x with | .str z => z.length ≤ 4000 ∧ P (.int (dd (sgS z)).length) C1 | _ => False
theorem ae_lenSetT {a : Expr} {ta : TE} {aa : AE'} {p p2 q pos : Pos} (hm : X.mg "len" = none) (hm2 : X.mg "set" = none) (ha : AE B X a ta aa) (hc : X.calm = true := by rfl) (hg : Gl X "len" := by rfl) (hg2 : Gl X "set" := by rfl)
    (na : starEach [a] X.env = (false, eval a X.env) :: starEach [] X.env := by rfl) : AE B X (.Call (.Name "len" p) [.Call (.Name "set" p2) [a] [] q] [] pos) (tLenSetT ta) (aLenSet aa) := ⟨pe_lenSetT hm hm2 ha.pe hc hg hg2 na, by
  intro σ s F C R H Q P hs hS h0 k
  refine ha.sim σ s F C R H _ _ hs hS h0 fun x v F1 C1 H1 e1 S1 r1 h1 => ?_
  split at h1
  · cases r1
    exact ⟨_, rfl, h1.1, k _ _ F1 C1 H1 e1 S1 (.int _) h1.2⟩
  · exact h1.elim⟩
/-- ord of one sign -/
def aOrd : ASp := fun ds C P => match ds with | [.str z] => z.length = 1 ∧ P (.int (z.cps.getD 0 0 : Nat)) C | _ => False
theorem ac_ord : ACa B X (.builtin "ord") (fun xs H Q => ∃ x, xs = [.str x] ∧ x.length = 1 ∧ Q (.int (x.cps.getD 0 0 : Nat)) H) aOrd := ⟨call_ord, by
  intro vs ds F C R H Q P hS r h k
  unfold aOrd at h
  split at h
  · cases r with
    | cons r1 r2 =>
      cases r2; cases r1
      exact ⟨_, rfl, h.1, k _ _ F C H (Ex.refl F) hS (.int _) h.2⟩
  · exact h.elim⟩
end
section
variable {C : AH} {P : D → AH → Prop} {s : ASt} {e : AE'}
def kLenSet (P : D → AH → Prop) : D → AH → Prop := fun x C1 => match x with | .str z => z.length ≤ 4000 ∧ P (.int (dd (sgS z)).length) C1 | _ => False
theorem g_lenSet (h : e s C (kLenSet P)) : aLenSet e s C P := h
theorem g_kLenSet {z : Str} (h1 : z.length ≤ 4000) (h : P (.int (dd (sgS z)).length) C) : kLenSet P (.str z) C := ⟨h1, h⟩
theorem g_ord {z : Str} (h1 : z.length = 1) (h : P (.int (z.cps.getD 0 0 : Nat)) C) : aOrd [.str z] C P := ⟨h1, h⟩
end
end AL

namespace AL
open PySem PySem.Spec PyProof.Rows L2
variable {B : Bs}
/-! ### a dict of the module: texts, and a whole number each -/
def TabI (P : Params) : List DictEntry → List (Str × Int) → Prop
  | [], [] => True
  | e :: r, (x, i) :: q => (∃ t u, e.key = .str x t ∧ e.val = .int i u ∧ e.hash = PyData.keyHash P x) ∧ TabI P r q
  | _, _ => False
def tabAt : List (Str × Int) → Str → Option Int
  | [], _ => none
  | (x, i) :: q, z => if x = z then some i else tabAt q z
theorem TabI.lit {P : Params} : ∀ {es : List DictEntry} {tab : List (Str × Int)}, TabI P es tab → PySem.W.KeysLit P es
  | [], _, _ => trivial
  | e :: r, (x, i) :: q, ⟨⟨t, u, h1, h2, h3⟩, h⟩ => ⟨⟨x, t, h1, h3⟩, TabI.lit h⟩
  | e :: r, [], h => h.elim
theorem TabI.noRef {P : Params} : ∀ {es : List DictEntry} {tab : List (Str × Int)}, TabI P es tab → es.any (·.refKey) = false
  | [], _, _ => rfl
  | e :: r, (x, i) :: q, ⟨⟨t, u, h1, h2, h3⟩, h⟩ => by
    rw [List.any_cons, TabI.noRef h, Bool.or_false]
    unfold DictEntry.refKey
    rw [h1]
  | e :: r, [], h => h.elim
theorem TabI.find {P : Params} : ∀ {es : List DictEntry} {tab : List (Str × Int)} (z : Str), TabI P es tab → match tabAt tab z with | some i => ∃ e u, es.find? (·.key.isStr z) = some e ∧ e.val = .int i u | none => es.find? (·.key.isStr z) = none
  | [], [], _, _ => rfl
  | [], _ :: _, _, h => h.elim
  | e :: r, (x, i) :: q, z, ⟨⟨t, u, h1, h2, h3⟩, h⟩ => by
    unfold tabAt
    by_cases hx : x = z
    · rw [if_pos hx]
      refine ⟨e, u, ?_, h2⟩
      rw [List.find?_cons_of_pos]
      rw [h1, hx]
      simp [Value.isStr]
    · rw [if_neg hx, List.find?_cons_of_neg]
      · exact TabI.find z h
      · rw [h1]
        simp [Value.isStr, hx]
  | e :: r, [], _, h => h.elim
structure KTab (K : PySem.W.Frag) (P : Params) (d : Addr) (tab : List (Str × Int)) : Prop where
  ex : ∃ es n, K.lookup d = some ⟨.type "dict", none, .dict es n, #[]⟩ ∧ TabI P es.toList tab
  low : (d == sysModules) = false
theorem KTab.ns {K : PySem.W.Frag} {P : Params} {d : Addr} {tab : List (Str × Int)} (T : KTab K P d tab) (z : Str) : match tabAt tab z with | some i => ∃ u, PySem.W.nsIn K d z = some (some (.int i u)) | none => PySem.W.nsIn K d z = some none := by
  obtain ⟨es, n, h1, h2⟩ := T.ex
  have h := h2.find z
  unfold PySem.W.nsIn
  rw [h1]
  dsimp only
  cases q : tabAt tab z with
  | some i =>
    rw [q] at h
    obtain ⟨e, u, e1, e2⟩ := h
    exact ⟨u, by rw [e1]; dsimp only; rw [e2]⟩
  | none =>
    rw [q] at h
    rw [h]
    dsimp only
    rw [h2.noRef]
    rfl
section
variable {X : Cx} {K : PySem.W.Frag} {x : Str} {d : Addr} {tab : List (Str × Int)} {e : Expr} {te : TE} {a : AE'} {p pos : Pos}
def rInTab (d : Addr) (tab : List (Str × Int)) (neg : Bool) : R2 := fun v y H Q => ∃ z, v = .str z ∧ y = .ref d ∧ Q (.bl (if neg then !(tabAt tab z).isSome else (tabAt tab z).isSome)) H
theorem op_inTab (T : KTab X.K X.w.params d tab) : OpR X (compareOp .In) (rInTab d tab false) := by
  obtain ⟨es, n, h1, h2⟩ := T.ex
  have D : KDict X.K X.w d es n := ⟨h1, h2.lit, T.low⟩
  intro pins s σ H x y v u Q I rx ry h
  obtain ⟨z, e1, e2, q⟩ := h
  have hn := T.ns z
  cases hz : tabAt tab z with
  | some i =>
    rw [hz] at hn q
    obtain ⟨w, hn⟩ := hn
    exact op_in_kd D pins s σ H x y v u Q I rx ry ⟨z, _, e1, e2, hn, q⟩
  | none =>
    rw [hz] at hn q
    exact op_in_kd D pins s σ H x y v u Q I rx ry ⟨z, _, e1, e2, hn, q⟩
theorem op_notInTab (T : KTab X.K X.w.params d tab) : OpR X (compareOp .NotIn) (rInTab d tab true) := by
  obtain ⟨es, n, h1, h2⟩ := T.ex
  have D : KDict X.K X.w d es n := ⟨h1, h2.lit, T.low⟩
  intro pins s σ H x y v u Q I rx ry h
  obtain ⟨z, e1, e2, q⟩ := h
  have hn := T.ns z
  cases hz : tabAt tab z with
  | some i =>
    rw [hz] at hn q
    obtain ⟨w, hn⟩ := hn
    exact op_notIn_kd D pins s σ H x y v u Q I rx ry ⟨z, _, e1, e2, hn, q⟩
  | none =>
    rw [hz] at hn q
    exact op_notIn_kd D pins s σ H x y v u Q I rx ry ⟨z, _, e1, e2, hn, q⟩
def aInTab (tab : List (Str × Int)) (neg : Bool) (a : AE') : AE' := fun s C P => a s C fun x C1 => match x with | .str z => P (.bl (if neg then !(tabAt tab z).isSome else (tabAt tab z).isSome)) C1 | _ => False
theorem sim_inTab {neg : Bool} (h : SimE B K te a) : SimE B K (tOp (rInTab d tab neg) te (tC (.ref d))) (aInTab tab neg a) := by
  intro σ s F C R H Q P hs hS h0 k
  refine h σ s F C R H _ _ hs hS h0 fun y v F1 C1 H1 e1 S1 r1 h1 => ?_
  split at h1
  · cases r1
    exact ⟨_, rfl, rfl, k _ _ F1 C1 H1 e1 S1 (.bl _) h1⟩
  · exact h1.elim
theorem ae_inTab (h : AE B X e te a) (T : KTab X.K X.w.params d tab) (hm : X.mg x = some (.ref d)) (hg : Gl X x := by rfl) (hd : (x == ("__debug__" : Str)) = false := by decide) (hb : behindInMarks .In (.Name x p) = false := by first | exact nomark _ | with_unfolding_all rfl) :
    AE B X (.Compare e [.In] [.Name x p] pos) (tOp (rInTab d tab false) te (tC (.ref d))) (aInTab tab false a) := ⟨pe_cmpR (op_inTab T) h.pe (pe_glob (v := .ref d) hg hm rfl hd) hb, sim_inTab h.sim⟩
theorem at_inTab (h : AE B X e te a) (T : KTab X.K X.w.params d tab) (hm : X.mg x = some (.ref d)) (hg : Gl X x := by rfl) (hd : (x == ("__debug__" : Str)) = false := by decide) (hb : behindInMarks .In (.Name x p) = false := by first | exact nomark _ | with_unfolding_all rfl) :
    AT B X (.Compare e [.In] [.Name x p] pos) (tTest (tOp (rInTab d tab false) te (tC (.ref d)))) (aB (aInTab tab false a)) := ⟨pt_cmpR (op_inTab T) h.pe (pe_glob (v := .ref d) hg hm rfl hd) hb, sim_B (sim_inTab h.sim)⟩
theorem ae_notInTab (h : AE B X e te a) (T : KTab X.K X.w.params d tab) (hm : X.mg x = some (.ref d)) (hg : Gl X x := by rfl) (hd : (x == ("__debug__" : Str)) = false := by decide) (hb : behindInMarks .NotIn (.Name x p) = false := by first | exact nomark _ | with_unfolding_all rfl) :
    AE B X (.Compare e [.NotIn] [.Name x p] pos) (tOp (rInTab d tab true) te (tC (.ref d))) (aInTab tab true a) := ⟨pe_cmpR (op_notInTab T) h.pe (pe_glob (v := .ref d) hg hm rfl hd) hb, sim_inTab h.sim⟩
theorem at_notInTab (h : AE B X e te a) (T : KTab X.K X.w.params d tab) (hm : X.mg x = some (.ref d)) (hg : Gl X x := by rfl) (hd : (x == ("__debug__" : Str)) = false := by decide) (hb : behindInMarks .NotIn (.Name x p) = false := by first | exact nomark _ | with_unfolding_all rfl) :
    AT B X (.Compare e [.NotIn] [.Name x p] pos) (tTest (tOp (rInTab d tab true) te (tC (.ref d)))) (aB (aInTab tab true a)) := ⟨pt_cmpR (op_notInTab T) h.pe (pe_glob (v := .ref d) hg hm rfl hd) hb, sim_B (sim_inTab h.sim)⟩
/-- TABLE[e] -/
def rIxTab (d : Addr) (tab : List (Str × Int)) : R2 := fun v y H Q => ∃ z i, v = .ref d ∧ y = .str z ∧ tabAt tab z = some i ∧ Q (.int i) H
theorem ix_tab (T : KTab X.K X.w.params d tab) : IxR X (rIxTab d tab) := by
  obtain ⟨es, n, h1, h2⟩ := T.ex
  have D : KDict X.K X.w d es n := ⟨h1, h2.lit, T.low⟩
  intro value slice pins s σ H x y v u Q I rx ry h hs
  obtain ⟨z, i, e1, e2, hz, q⟩ := h
  have hn := T.ns z
  rw [hz] at hn
  obtain ⟨w, hn⟩ := hn
  subst e1
  cases rx
  refine tail_any (kd_type D I) PySem.F.slot_dict_getitem.lookup ?_ hs
  exact op_item_kd D pins s σ H (.ref d) y (.ref d) u Q I rfl ry ⟨z, _, .int i, rfl, e2, hn, ⟨_, rfl⟩, q⟩
def aIxTab (tab : List (Str × Int)) (a : AE') : AE' := fun s C P => a s C fun x C1 => match x with | .str z => (match tabAt tab z with | some i => P (.int i) C1 | none => False) | _ => False
theorem ae_ixTab (h : AE B X e te a) (T : KTab X.K X.w.params d tab) (hm : X.mg x = some (.ref d)) (hg : Gl X x := by rfl) (hd : (x == ("__debug__" : Str)) = false := by decide) (hs : PlainIx e := by exact fun _ _ => rfl) :
    AE B X (.Subscript (.Name x p) e pos) (tOp (rIxTab d tab) (tC (.ref d)) te) (aIxTab tab a) := ⟨pe_ix (ix_tab T) (pe_glob (v := .ref d) hg hm rfl hd) h.pe hs, by
  intro σ s F C R H Q P hs hS h0 k
  refine h.sim σ s F C R H _ _ hs hS h0 fun y v F1 C1 H1 e1 S1 r1 h1 => ?_
  split at h1
  · cases r1
    split at h1
    · rename_i i hi
      exact ⟨_, i, rfl, rfl, hi, k _ _ F1 C1 H1 e1 S1 (.int _) h1⟩
    · exact h1.elim
  · exact h1.elim⟩
end
section
variable {C : AH} {P : D → AH → Prop} {s : ASt} {e : AE'} {tab : List (Str × Int)}
def kInTab (tab : List (Str × Int)) (neg : Bool) (P : D → AH → Prop) : D → AH → Prop := fun x C1 => match x with | .str z => P (.bl (if neg then !(tabAt tab z).isSome else (tabAt tab z).isSome)) C1 | _ => False
def kIxTab (tab : List (Str × Int)) (P : D → AH → Prop) : D → AH → Prop := fun x C1 => match x with | .str z => (match tabAt tab z with | some i => P (.int i) C1 | none => False) | _ => False
theorem g_inTab {neg : Bool} (h : e s C (kInTab tab neg P)) : aInTab tab neg e s C P := h
theorem g_kInTab {z : Str} (h : P (.bl (tabAt tab z).isSome) C) : kInTab tab false P (.str z) C := h
theorem g_kNotInTab {z : Str} (h : P (.bl (!(tabAt tab z).isSome)) C) : kInTab tab true P (.str z) C := h
theorem g_ixTab (h : e s C (kIxTab tab P)) : aIxTab tab e s C P := h
theorem g_kIxTab {z : Str} {i : Int} (h1 : tabAt tab z = some i) (h : P (.int i) C) : kIxTab tab P (.str z) C := by
  unfold kIxTab
  simp only [h1]
  exact h
end
end AL

namespace AL
open PySem PySem.Spec PyProof.Rows L2
variable {B : Bs}
/-! ### a list, whatever is in it, == [] -/
def rEqE (K : PySem.W.Frag) (neg : Bool) : R2 := fun x y H Q => ∃ a b xs, x = .ref a ∧ y = .ref b ∧ SqL K H a xs ∧ SqL K H b [] ∧ Q (.bl (if neg then !xs.isEmpty else xs.isEmpty)) H
section
variable {X : Cx} {K : PySem.W.Frag}
theorem op_eqE (hu : X.A.units + 64 < cLine) : OpR X (compareOp .Eq) (rEqE X.K false) := by
  intro pins s σ H x y v u Q I rx ry h
  obtain ⟨a, b, xs, rfl, rfl, h1, h2, q⟩ := h
  cases xs with
  | nil => exact op_eqD hu pins s σ H _ _ v u Q I rx ry ⟨.list [], .list [], .lst h1 .nil, .lst h2 .nil, rfl, rfl, q⟩
  | cons e es =>
    cases rx; cases ry
    obtain ⟨its, r, pl, _⟩ := I.list h1
    obtain ⟨its2, r2, pl2, _⟩ := I.list h2
    have l1 := r.length
    have l2 := r2.length
    refine SeqAt.RcAt.lists_lengths pl.isList pl2.isList ?_ (by omega) X.prog X.w _ _ ⟨.bl false, H, I, rfl, q⟩
    rw [List.size_toArray, List.size_toArray, ← l1, ← l2]
    simp
theorem op_neE (hu : X.A.units + 64 < cLine) : OpR X (compareOp .NotEq) (rEqE X.K true) := by
  intro pins s σ H x y v u Q I rx ry h
  obtain ⟨a, b, xs, rfl, rfl, h1, h2, q⟩ := h
  cases xs with
  | nil => exact op_neD hu pins s σ H _ _ v u Q I rx ry ⟨.list [], .list [], .lst h1 .nil, .lst h2 .nil, rfl, rfl, q⟩
  | cons e es =>
    cases rx; cases ry
    obtain ⟨its, r, pl, _⟩ := I.list h1
    obtain ⟨its2, r2, pl2, _⟩ := I.list h2
    have l1 := r.length
    have l2 := r2.length
    refine SeqAt.RcNeAt.lists_lengths pl.isList pl2.isList ?_ (by omega) X.prog X.w _ _ ⟨.bl true, H, I, rfl, q⟩
    rw [List.size_toArray, List.size_toArray, ← l1, ← l2]
    simp
/-- the right side is [] -/
def aEqNil (neg : Bool) : D → D → AH → (D → AH → Prop) → Prop := fun x y C P => match asLr C x, y with
  | some us, .lst [] => P (.bl (if neg then !us.isEmpty else us.isEmpty)) C
  | _, _ => False
theorem sim_eqNil (neg : Bool) : SimR2 B K (rEqE K neg) (aEqNil neg) := by
  intro v w d e F C R H Q P hS r1 r2 h k
  unfold aEqNil at h
  split at h
  · rename_i us q
    obtain ⟨a, xs, e1, h1, h2⟩ := asLr_ok hS r1 q
    obtain ⟨b, ys, e2, h3, h4⟩ := asLr_ok (C := C) (d := .lst []) (ds := []) hS r2 rfl
    cases h4
    have he : xs.isEmpty = us.isEmpty := by cases h2 <;> rfl
    exact ⟨a, b, xs, e1, e2, h1, h3, k _ _ F C H (Ex.refl F) hS (by rw [he]; exact .bl _) h⟩
  · exact h.elim
theorem ao_eqNil (hu : X.A.units + 64 < cLine) (hK : X.K = K := by rfl) : AOp B X (compareOp .Eq) (rEqE K false) (aEqNil false) := by
  subst hK
  exact ⟨op_eqE hu, sim_eqNil false⟩
theorem ao_neNil (hu : X.A.units + 64 < cLine) (hK : X.K = K := by rfl) : AOp B X (compareOp .NotEq) (rEqE K true) (aEqNil true) := by
  subst hK
  exact ⟨op_neE hu, sim_eqNil true⟩
end
section
variable {C : AH} {P : D → AH → Prop}
theorem g_eqNil {us : List D} (h : P (.bl us.isEmpty) C) : aEqNil false (.lst us) (.lst []) C P := h
theorem g_neNil {us : List D} (h : P (.bl (!us.isEmpty)) C) : aEqNil true (.lst us) (.lst []) C P := h
end
/-! ### a < b < c, one step -/
section
variable {C : AH} {P : D → AH → Prop} {s : ASt} {a b c : AE'} {r r' : D → D → AH → (D → AH → Prop) → Prop}
def kChain (r' : D → D → AH → (D → AH → Prop) → Prop) (c : AE') (y : D) (s : ASt) (P : D → AH → Prop) : D → AH → Prop := fun z C3 => match z with
  | .bl true => c s C3 fun w C4 => r' y w C4 P
  | .bl false => P (.bl false) C3
  | _ => False
theorem g_chain (h : a s C fun x C1 => b s C1 fun y C2 => r x y C2 (kChain r' c y s P)) : aChain r r' a b c s C P := h
theorem g_kChain {y : D} {k : Bool} (h1 : k = true → c s C fun w C4 => r' y w C4 P) (h2 : k = false → P (.bl false) C) : kChain r' c y s P (.bl k) C := by
  cases k
  · exact h2 rfl
  · exact h1 rfl
end
end AL

namespace AL
open PySem PySem.Spec PyProof.Rows L2
variable {B : Bs}
section
variable {X : Cx} {K : PySem.W.Frag}
/-! ### {k: v}, k a tuple -/
def keyD : Key → D
  | .inl i => .int i
  | .inr x => .str x
def keysD : List D → Option (List Key)
  | [] => some []
  | .int i :: ds => (keysD ds).map (.inl i :: ·)
  | .str x :: ds => (keysD ds).map (.inr x :: ·)
  | _ => none
theorem keysD_ok : ∀ {ds : List D} {ks : List Key}, keysD ds = some ks → ds = ks.map keyD
  | [], _, h => by cases h; rfl
  | d :: ds, _, h => by
    cases d <;> simp only [keysD, reduceCtorEq, Option.map_eq_some_iff] at h
    all_goals
      obtain ⟨ks, h1, rfl⟩ := h
      rw [List.map_cons, ← keysD_ok h1]
      rfl
theorem keysD_map : ∀ ks : List Key, keysD (ks.map keyD) = some ks
  | [] => rfl
  | .inl i :: ks => by simp [keysD, keyD, keysD_map ks]
  | .inr x :: ks => by simp [keysD, keyD, keysD_map ks]
theorem keysD_rep {F : Hp} : ∀ {ks : List Key} {vs : List V}, RepL K F vs (ks.map keyD) → vs = ks.map kV
  | [], _, .nil => rfl
  | .inl i :: ks, _, .cons r t => by cases r; rw [keysD_rep t]; rfl
  | .inr i :: ks, _, .cons r t => by cases r; rw [keysD_rep t]; rfl
theorem rep_keyD {F : Hp} : ∀ ks : List Key, RepL K F (ks.map kV) (ks.map keyD)
  | [] => .nil
  | .inl i :: ks => .cons (.int i) (rep_keyD ks)
  | .inr i :: ks => .cons (.str i) (rep_keyD ks)
def tDispT (tk tv : TE) : TE := fun σ H Q => ∀ p, H p = none → tk σ (upd H p (.dT [])) fun x H1 => tv σ H1 fun y H2 => H2 p = some (.dT []) ∧ ∃ a ks, x = .ref a ∧ H2 a = some (.tup (ks.map kV)) ∧ Q (.ref p) (upd H2 p (.dT [(ks, y)]))
theorem pe_dispT {pos : Pos} {k v : Expr} {tk tv : TE} (hu : X.A.units + 1 < cLine) (hk : PE X k tk) (hv : PE X v tv) : PE X (.Dict [some k] [v] pos) (tDispT tk tv) := by
  refine ⟨fun pins s σ H Q I q => ?_⟩
  have hn := I.hok.fresh (Nat.le_refl s.heap.objs.size)
  have I1 := I.laid (a := s.heap.objs.size) (o := .dT []) (h' := s.heap.push { cls := .type "dict", data := .dict #[] }) (t' := s.toks) (fun _ _ q => Heap.get?_push_of_some _ q) (Nat.le_refl _) (dt_empty s.heap I.big)
  rw [arm_eval_Dict, zip_pairTrees [some k] [v] X.env pos rfl rfl, dictDisplay_pairs _ (by simp [pairTrees]) (by simp [pairTrees])]
  refine wpAny_bind (wpAny_standAt (wpAny_bind (wpAny_subDictH (knd := tupleKind (mixKind X.prog X.w)) (Q := fun d s' => wpAny (model X.prog X.w) X.A (pure (Value.ref d)) (EP X pins σ Q) X.xe s') (show X.A.units < cLine by omega) (by simp [pairTrees]) ?_)))
  refine pairTrees_cons_walk (thn (hk.run pins _ σ _ _ I1 (q _ hn)) fun u s1 ⟨x, H1, I1, rx, q1⟩ => thn (hv.run pins s1 σ H1 _ I1 q1) fun w2 s2 ⟨y, H2, I2, ry, q2⟩ => pairTrees_nil_walk ?_)
  obtain ⟨e, a, ks, rfl, ea, q2⟩ := q2
  cases rx
  obtain ⟨z, hd, xs, r0, dd⟩ := dt_of I2.hok e
  cases r0
  refine ⟨[(ks, a, w2)], ⟨rfl, rfl, key_of I2.hok ea, trivial⟩, dd, fun h' tk' dd' hs => wpAny_pure ⟨.ref s.heap.objs.size, _, ?_, rfl, q2⟩⟩
  obtain ⟨q, es, ep, hq, h2, h3, h4, _, h5⟩ := dd'
  refine d_write I2 (by rw [e]; exact True.intro) hs ⟨q, hq⟩ ⟨by simp [sizeLine_eq], hd, [(ks, a, w2)], .cons ⟨rfl, ?_, ry⟩ .nil, q, es, ep, hq, h2, h3, h4, h5⟩
  show upd H2 _ _ a = _
  rw [upd_ne (ne_of ea e (fun z => nomatch z))]
  exact ea
def aDispT (ak av : AE') : AE' := fun s C P => ak s C fun dk C1 => av s C1 fun dv C2 => match dk with
  | .tup ds => (match keysD ds with | some ks => ∀ p, C2 p = none → P (.ce p) (put C2 p (.dt [(ks, dv)])) | none => False)
  | _ => False
theorem sim_dispT {tk tv : TE} {ak av : AE'} (h1 : SimE B K tk ak) (h2 : SimE B K tv av) : SimE B K (tDispT tk tv) (aDispT ak av) := by
  intro σ s F C R H Q P hs hS h0 k p hp
  have hF := hS.freeF hp
  have hC := hS.freeC hp
  have hR := hS.freeR hp
  refine h1 σ s F C (upd R p (.dT [])) (upd H p (.dT [])) _ _ hs (hS.setR hF hC (hS.freeB hR) _) h0 fun d v F1 C1 H1 e1 S1 r1 g1 => ?_
  refine h2 σ s F1 C1 _ H1 _ _ (hs.mono e1) S1 g1 fun d2 v2 F2 C2 H2 e2 S2 r2 g2 => ?_
  split at g2
  · split at g2
    · rename_i ds ks ek
      have := keysD_ok ek
      subst this
      cases r1 with
      | tup a1 a2 =>
        have := keysD_rep a2
        subst this
        obtain ⟨f1, c1, q1⟩ := S2.priv p _ upd_same
        refine ⟨q1, _, ks, rfl, S2.ex _ _ (e2 _ _ a1), ?_⟩
        have S3 := (S2.outC hR (hS.freeB hR) (.dt .nil)).mutC put_same (.dt (.cons (k := ks) r2 .nil))
        rw [put_put] at S3
        exact k _ _ F2 _ _ (e1.trans e2) S3 (.ce p) (g2 p c1)
    · exact g2.elim
  · exact g2.elim
theorem ae_dispT {pos : Pos} {k v : Expr} {tk tv : TE} {ak av : AE'} (hu : X.A.units + 1 < cLine) (h1 : AE B X k tk ak) (h2 : AE B X v tv av) : AE B X (.Dict [some k] [v] pos) (tDispT tk tv) (aDispT ak av) :=
  ⟨pe_dispT hu h1.pe h2.pe, sim_dispT h1.sim h2.sim⟩
/-! ### repr of such a dict -/
def peT : List (List Key × D) → Option (List (PyData × PyData))
  | [] => some []
  | (k, d) :: es => match D.pe d, peT es with | some x, some xs => some ((.tuple (k.map datKey), x) :: xs) | _, _ => none
theorem pe_keys : ∀ ks : List Key, peL (ks.map keyD) = some (ks.map datKey)
  | [] => rfl
  | .inl i :: ks => by simp [peL, pe_keys ks, keyD, datKey, D.pe]
  | .inr i :: ks => by simp [peL, pe_keys ks, keyD, datKey, D.pe]
section
variable {pins : List (Addr × Obj)} {σ : L2.St} {H F : Hp} {s : Shared}
theorem shwT_of (I : Inv X pins σ H s) (e : Ex F H) : ∀ (es : List (List Key × D)) (kvs : List (List Key × V)) (vs : List (List Key × Addr × Value)) (xs : List (PyData × PyData)), RepT X.K F kvs es → KT H kvs vs → peT es = some xs →
    PyData.showableAll (xs.map (·.1)) = true → PyData.showableAll (xs.map (·.2)) = true → (∀ t ∈ PyData.shownAll (xs.map (·.1)), t.length ≤ sizeLine) → (∀ t ∈ PyData.shownAll (xs.map (·.2)), t.length ≤ sizeLine) →
    ShwL X s.heap (vs.map fun v => Value.ref v.2.1) (xs.map (·.1)) ∧ ShwL X s.heap (vs.map fun v => v.2.2) (xs.map (·.2))
  | [], _, _, _, r, q, h, _, _, _, _ => by
    cases r; cases q
    simp only [peT] at h
    cases h
    exact ⟨.nil, .nil⟩
  | (k, d) :: es, _, _, _, r, q, h, s1, s2, z1, z2 => by
    cases r with
    | cons r1 r2 =>
      cases q with
      | cons q1 q2 =>
        unfold peT at h
        split at h
        · rename_i g1 g2
          cases h
          simp only [List.map_cons, PyData.showableAll, Bool.and_eq_true] at s1 s2
          simp only [List.map_cons, PyData.shownAll] at z1 z2
          obtain ⟨i1, i2⟩ := shwT_of I e es _ _ _ r2 q2 g2 s1.2 s2.2 (fun t ht => z1 t (List.mem_cons_of_mem _ ht)) (fun t ht => z2 t (List.mem_cons_of_mem _ ht))
          obtain ⟨q11, q12, q13⟩ := q1
          have e1 : k = _ := q11
          refine ⟨ShwL.cons ?_ i1, ShwL.cons (shw_of I e d _ _ _ r1 q13 g1 s2.1 (z2 _ (List.mem_cons_self ..))) i2⟩
          obtain ⟨its, rv, pl, _⟩ := I.tuple (SqT.of q12)
          exact shw_tup pl (shwL_of I (Ex.refl H) (k.map keyD) _ its _ (rep_keyD k) rv (pe_keys k) (by simpa [PyData.showable] using s1.1) fun t ht => Nat.le_trans (shown_memT ht) (z1 _ (List.mem_cons_self ..)))
        · cases h
end
def rRepT2 (K : PySem.W.Frag) : List V → Hp → VK → Prop := fun xs H Q => ∃ a es kvs F x, xs = [.ref a] ∧ Ex F H ∧ H a = some (.dT kvs) ∧ RepT K F kvs es ∧ peT es = some x ∧ (PyData.dict x).showable = true ∧ (PyData.dict x).depth ≤ 64 ∧ (PyData.dict x).shown.length ≤ sizeLine ∧ Q (.str (PyData.dict x).shown) H
theorem call_repT2 (hg : X.A.guards = some []) (hu : X.A.units + 200 < cLine) : CallR X (.builtin "repr") (rRepT2 X.K) := by
  intro pins s σ H xs us Q I r h
  obtain ⟨a, es, kvs, F, x, rfl, ex, ha, g2, g, h1, h3, h4, q⟩ := h
  obtain ⟨u, rfl, r1⟩ := vals1 r
  cases r1
  have fin : ∀ (h' : Heap) (t tk : Tok), (∀ b o, s.heap.get? b = some o → h'.get? b = some o) → EP X pins σ Q (.str (PyData.dict x).shown t) { s with heap := h', toks := tk } := fun h' t tk k => ⟨.str _, H, (I.kept (t' := tk) k), ⟨t, rfl⟩, q⟩
  have hu2 : ∀ n, n ≤ 64 → X.A.in1.units + n < cLine := fun n hn => by show X.A.units + 1 + n < cLine; omega
  obtain ⟨_, lo, vs, kt, o, ens, ep, a1, a2, a3, a4, a5, a6⟩ := dt_of I.hok ha
  obtain ⟨s1, s2⟩ := PyData.showableKv_split x (by simpa [PyData.showable] using h1)
  have hz' : (dictText (PyData.shownKv x)).length ≤ sizeLine := by simpa only [PyData.shown] using h4
  have sh := shwT_of I ex es _ vs x g2 kt g s1 s2 (fun t ht => let ⟨p, hp, hl⟩ := PyData.shownKv_key_le x t ht; Nat.le_trans hl (Nat.le_trans (dictText_mem_le hp) hz'))
    (fun t ht => let ⟨p, hp, hl⟩ := PyData.shownKv_val_le x t ht; Nat.le_trans hl (Nat.le_trans (dictText_mem_le hp) hz'))
  have ek : ens.toList.map (·.key) = vs.map fun v => Value.ref v.2.1 := by rw [a4, List.map_map]; rfl
  have ev : ens.toList.map (·.val) = vs.map fun v => v.2.2 := by rw [a4, List.map_map]; rfl
  rw [← ek, ← ev] at sh
  obtain ⟨⟨⟨as, r1⟩, b1, m1, k1⟩, ⟨as2, r2⟩, b2, m2, k2⟩ := sh
  have rr : Reads s.heap (.ref _) (.dict x) _ := .dict a1 a2.1 a3 r1 r2
  have mm : ReadAtMost s.heap (PyData.depthKv x) (b1 ++ b2) := (m1.mono (PyData.depthAll_keys_le x)).append (m2.mono (PyData.depthAll_vals_le x))
  have na := not_mem_of_deeper rr (by simp only [PyData.depth]; omega) mm
  have kk := k1.more_le (as' := b1 ++ b2) (fun z hz => List.mem_append_left _ hz) (PyData.depthAll_keys_le x)
  have vv := k2.more_le (as' := b1 ++ b2) (fun z hz => List.mem_append_right _ hz) (PyData.depthAll_vals_le x)
  simp only [PyData.depth] at h3
  simp only [PyData.shown, PyData.shownKv_eq] at fin
  refine call_repr_slot (by omega) ⟨o, a1, a2.1⟩ PySem.F.slot_dict_repr ?_
  exact call_dict_reprK a1 a2.1 a3 lo na (ReprEntriesK.of_two ens.toList _ _ kk vv) (show X.A.in1.guards = some [] from hg) (fun b _ => Clear.nil b) (hu2 _ h3) (fun _ _ e => e) (fun h' t tk kp => ⟨_, _, rfl, fin h' t tk kp⟩) (by rw [← PyData.shownKv_eq]; exact hz')
/-- repr(x), x anything, or such a dict -/
def aReprT : ASp := fun ds C P => aRepr ds C P ∨ ∃ p es x, ds = [.ce p] ∧ C p = some (.dt es) ∧ peT es = some x ∧ (PyData.dict x).showable = true ∧ (PyData.dict x).depth ≤ 64 ∧ (PyData.dict x).shown.length ≤ sizeLine ∧ P (.str (PyData.dict x).shown) C
theorem ac_reprT (hg : X.A.guards = some []) (hu : X.A.units + 200 < cLine) (hK : X.K = K := by rfl) : ACa B X (.builtin "repr") (fun vs H Q => (rRepE K vs H Q ∨ rRep K vs H Q) ∨ rRepT2 K vs H Q) aReprT := by
  subst hK
  refine ⟨((call_repE hg hu).or (call_rep hg hu)).or (call_repT2 hg hu), ?_⟩
  intro vs ds F C R H Q P hS r h k
  rcases h with h | ⟨p, es, x, rfl, h1, h2, h3, h4, h5, h6⟩
  · exact .inl ((ac_repr (B := B) hg hu).sim vs ds F C R H Q P hS r h k)
  · cases r with
    | cons r1 r2 =>
      cases r2; cases r1
      obtain ⟨_, o, g1, g2⟩ := hS.cell p _ h1
      cases g2 with
      | dt g3 => exact .inr ⟨p, es, _, F, x, rfl, hS.ex, g1, g3, h2, h3, h4, h5, k _ _ F C H (Ex.refl F) hS (.str _) h6⟩
/-! ### tuple(a text) -/
def kTupS (x : V) (H : Hp) (Q : VK) : Prop := ∃ z, x = .str z ∧ z.cps.size ≤ sizeLine ∧ ∀ q, H q = none → Q (.ref q) (upd H q (.tup (signsV z)))
theorem rl_tupS (hc : X.calm = true) (pins : List (Addr × Obj)) (s : Shared) (σ : L2.St) (H : Hp) (x : V) (v : Value) (Q : VK) (I : Inv X pins σ H s) (r : RelV x v) (h : kTupS x H Q) :
    wpAny (model X.prog X.w) X.A (call (.type "tuple") [v]) (EP X pins σ Q) X.xe s := by
  obtain ⟨z, rfl, hz, q⟩ := h
  obtain ⟨t, rfl⟩ := r
  refine PySem.call_tuple_str (I.ok.hd hc) z t (hsz := hz) fun h' tk acc hk hi => ?_
  have I1 : Inv X pins σ H { s with heap := h', toks := tk } := I.kept hk
  refine ⟨.ref h'.objs.size, upd H h'.objs.size (.tup (signsV z)), I1.laid (t' := tk) (fun b o e => Heap.get?_push_of_some _ e) (Nat.le_refl _) ⟨by unfold signsV; rw [List.length_map, Array.length_toList]; exact hz, acc.toList, ?_, ?_⟩, rfl, q _ (I1.hok.fresh (Nat.le_refl _))⟩
  · refine vals_of_idx _ _ (by unfold signsV; rw [List.length_map, Array.length_toList, Array.length_toList]; exact hi.1) fun j u hj => ?_
    obtain ⟨c, t', hc, rfl⟩ := hi.2 j u (by rw [← Array.getElem?_toList]; exact hj)
    refine ⟨.str ⟨#[c]⟩, ?_, ⟨_, rfl⟩⟩
    unfold signsV
    rw [List.getElem?_map, Array.getElem?_toList, hc]
    rfl
  · rw [Array.toArray_toList]
    exact ⟨_, Heap.get?_push_size _ rfl, rfl, _, rfl⟩
def aTupS : ASp := fun ds C P => match ds with | [.str z] => z.cps.size ≤ sizeLine ∧ P (.tup (signs z)) C | _ => False
theorem ac_tupS (hc : X.calm = true := by rfl) : ACa B X (.type "tuple") (r1 kTupS) aTupS := ⟨call_r1 (rl_tupS hc), by
  intro vs ds F C R H Q P hS r h k
  unfold aTupS at h
  split at h
  · cases r with
    | cons r1 r2 =>
      cases r2
      cases r1
      refine ⟨_, rfl, h.1, fun p hp => ?_⟩
      rename_i z
      have e := Ex.new (o := .tup (signsV z)) (hS.freeF hp)
      exact k _ _ _ C _ e (hS.newF hp _) (.tup upd_same ((signs_rep _).mono e)) h.2
  · exact h.elim⟩
end
end AL
namespace AL
open PySem PySem.Spec PyProof.Rows L2
def shownK (ks : List Key) (d : D) : Str := match peT [(ks, d)] with | some x => (PyData.dict x).shown | none => ""
theorem g_reprK {C : AH} {P : D → AH → Prop} {p : Addr} {ks : List Key} {d : D} (n : Nat) (hC : C p = some (.dt [(ks, d)])) (h : okR (.tup [.tup (ks.map keyD), d]) n = true) (hn : n ≤ 60) (hz : blk (.tup [.tup (ks.map keyD), d]) ≤ 8000) (k : P (.str (shownK ks d)) C) : aReprT [.ce p] C P := by
  obtain ⟨x, e, h1, h3, h4, h5⟩ := okR_pe _ n h
  have e2 : D.pe (.tup (ks.map keyD)) = some (.tuple (ks.map datKey)) := by simp only [D.pe, pe_keys]; rfl
  cases e3 : D.pe d with
  | none => simp [D.pe, peL, e3, e2] at e
  | some y =>
    have e4 : peT [(ks, d)] = some [(.tuple (ks.map datKey), y)] := by simp [peT, e3]
    unfold shownK at k
    rw [e4] at k
    have ex : x = .tuple [.tuple (ks.map datKey), y] := by simpa [D.pe, peL, e3, pe_keys, eq_comm] using e
    subst ex
    refine .inr ⟨p, _, _, rfl, hC, e4, ?_, ?_, ?_, k⟩
    · simpa [PyData.showable, PyData.showableAll, PyData.showableKv] using h1
    · simp [PyData.depth, PyData.depthAll, PyData.depthKv] at h3 ⊢; omega
    · have h6 : PyData.leavesShort 1922 (.dict [(.tuple (ks.map datKey), y)]) = true := by simpa [PyData.leavesShort, PyData.leavesShortAll, PyData.leavesShortKv] using h4
      have := PyData.shown_le_bulk 1922 (by decide) _ h6
      rw [sizeLine_eq]
      have h7 : PyData.bulk (.dict [(.tuple (ks.map datKey), y)]) ≤ 8010 := by
        simp [PyData.bulk, PyData.bulkAll, PyData.bulkKv] at h5 ⊢
        omega
      omega
theorem g_reprTT {C : AH} {P : D → AH → Prop} {d : D} (n : Nat) (h : okR d n = true) (hn : n ≤ 64) (hz : blk d ≤ 8000) (k : P (.str (shownE d)) C) : aReprT [d] C P := .inl (g_repr n h hn hz k)
theorem g_tupS {C : AH} {P : D → AH → Prop} {z : Str} (h1 : z.cps.size ≤ sizeLine) (h : P (.tup (signs z)) C) : aTupS [.str z] C P := ⟨h1, h⟩
end AL

namespace AL
open PySem PySem.Spec PyProof.Rows L2
variable {B : Bs}
section
variable {X : Cx} {K : PySem.W.Frag}
/-! ### sorted(d), sorted(xs): numbers, any length -/
def rSortDI : List V → Hp → VK → Prop := fun xs H Q => ∃ (a : Addr) (kvs : List (Key × V)) (ks : List Int), xs = [.ref a] ∧ Rd H a (.dK kvs) ∧ kvs.map (·.1) = ks.map Sum.inl ∧
    ∀ (ys : List Int) (p : Addr), ys.Perm ks → ys.Pairwise (· ≤ ·) → H p = none → Q (.ref p) (upd H p (.lst (ys.map V.int)))
theorem call_sortDI (hcalm : X.calm = true) : CallR X (.builtin "sorted") rSortDI := by
  intro pins s σ H xs us Q I r q
  obtain ⟨a, kvs, ks, ex, hd, hks, q⟩ := q
  subst ex
  obtain ⟨u, eu, rx⟩ := vals1 r
  subst eu
  cases rx
  obtain ⟨z, lo, vs, rel, dd⟩ := dk_rd I.hok hd
  obtain ⟨ep, hat⟩ := dd.dictAt
  have hkeys : vs.map (·.1) = ks.map Sum.inl := rel.keys.symm.trans hks
  have hl : vs.length = ks.length := by
    have e := congrArg List.length hkeys
    rw [List.length_map, List.length_map] at e
    exact e
  have h16 : vs.length ≤ sizeLine := by rw [← rel.length]; exact z
  refine Calls.call_function_entry PyProof.Rows.kind_sorted PyProof.Rows.plain_sorted PyProof.Rows.entry_sorted (PyProof.Rows.args_sorted1 _) ?_
  unfold Builtin.«sorted»
  refine wpAny_bind (m := checkCount "sorted" 1 1 _) (wpAny_pure ?_)
  refine wpAny_bind (PySem.W.kdu_collect (A := X.A.in1) (PySem.W.kdl_dict (knd := mixKind X.prog X.w) (kvs := vs) (ep := ep) lo) (I.ok.hd hcalm) hat h16 fun h' tk acc hk hacc => ?_)
  have hal : acc.toList.length = ks.length := by rw [Array.length_toList, hacc.1, hl]
  have hS : IntsAre acc.toList ks := ints_each hal fun j v e => by
    obtain ⟨k, x, e1, e2⟩ := hacc.2 j v (by rw [← Array.getElem?_toList]; exact e)
    have e3 : (vs.map (·.1))[j]? = some k := by rw [List.getElem?_map, e1]; rfl
    rw [hkeys, List.getElem?_map] at e3
    cases e4 : ks[j]? with
    | none => rw [e4] at e3; cases e3
    | some y =>
      rw [e4] at e3
      have e5 : Sum.inl y = k := Option.some.inj e3
      subst e5
      rcases keyIs_shape (show keyIs (Sum.inl y) v = true from e2) with ⟨i, t, ek, ev⟩ | ⟨z, t, ek, ev⟩
      · cases ek
        exact ⟨y, t, rfl, ev⟩
      · cases ek
  have I1 : Inv X pins σ H { s with heap := h', toks := tk } := I.kept hk
  have hsz : acc.toList.length ≤ sizeLine := by rw [hal, ← hl]; exact h16
  refine wpAny_bind (wpAny_newList ?_ hsz)
  have hoL : (h'.push (seqObj "list" acc.toList.toArray 0)).get? h'.objs.size = some (seqObj "list" acc.toList.toArray 0) := Heap.get?_push_size _ rfl
  show wpAny _ _ _ _ _ { s with heap := h'.push (seqObj "list" acc.toList.toArray 0), toks := tk }
  refine wpAny_bind (wpAny_holding (wpAny_call_entry PyProof.Rows.slot_list_sort ⟨_, hoL, rfl⟩ PyProof.Rows.entry_list_sort
    (PyProof.Rows.list_sort_treeAny (s := { s with heap := h'.push (seqObj "list" acc.toList.toArray 0), toks := tk }) hoL hS hsz fun out ys g1 g2 g3 => ⟨_, rfl, ?_⟩) (PyProof.Rows.args_list_sort _)))
  obtain ⟨e', he'⟩ := PyProof.Rows.sortedHeap_at (vs := acc.toList) (out := out) hoL
  have hlen : (ys.map V.int).length ≤ sizeLine := by
    rw [List.length_map, g2.length_eq, ← hal]
    exact hsz
  refine wpAny_pure ⟨_, rfl, .ref h'.objs.size, upd H h'.objs.size (.lst (ys.map V.int)), I1.laid (t' := tk) (fun b u e => ?_) (Nat.le_refl _)
    (show ObjOk X.prog X.w _ _ _ (.lst (ys.map V.int)) from ⟨hlen, out.toList, e', vals_of_ints g1, by rw [Array.toArray_toList]; exact he'⟩), rfl, q ys _ g2 g3 (I1.hok.fresh (Nat.le_refl _))⟩
  have hb : b < h'.objs.size := Heap.lt_size e
  rw [PyProof.Rows.sortedHeap_old (Nat.ne_of_lt hb) (by rw [size_push']; exact Nat.lt_succ_of_lt hb)]
  exact Heap.get?_push_of_some _ e
def rSortLI (K : PySem.W.Frag) : List V → Hp → VK → Prop := fun vs H Q => ∃ (a : Addr) (ns : List Int), vs = [V.ref a] ∧ SqL K H a (ns.map V.int) ∧
  ∀ (ns' : List Int) (p : Addr), ns'.Perm ns → ns'.Pairwise (· ≤ ·) → H p = none → Q (.ref p) (upd H p (.lst (ns'.map V.int)))
theorem call_sortLI : CallR X (.builtin "sorted") (rSortLI X.K) := by
  intro pins s σ H vs us Q I r h
  obtain ⟨a, ns, rfl, hs, q⟩ := h
  obtain ⟨its, rv, hl, hz⟩ := I.list hs
  rw [Vals.ref1 r]
  have hi := rv.ints
  have hz' : its.length ≤ sizeLine := by rw [← rv.length]; exact hz
  refine PyProof.Rows.sorted_intsAny hl.isList hi hz' fun out ns' h1 h2 h3 => ?_
  obtain ⟨ep, he'⟩ := PyProof.Rows.sortedAll_at s.heap its out
  have hlen : (ns'.map V.int).length ≤ sizeLine := by rw [List.length_map, h2.length_eq, ← List.length_map (f := V.int)]; exact hz
  exact ⟨.ref _, upd H (s.heap.objs.size + 1) (.lst (ns'.map V.int)), I.laid (t' := s.toks) (fun _ _ => PyProof.Rows.sortedAll_old) (Nat.le_succ _) ⟨hlen, out.toList, ep, vals_of_ints h1, he'⟩, rfl, q ns' _ h2 h3 (I.hok.fresh (Nat.le_succ _))⟩
def rSortLS (K : PySem.W.Frag) : List V → Hp → VK → Prop := fun vs H Q => ∃ (a : Addr) (xs : List Str), vs = [V.ref a] ∧ SqL K H a (xs.map V.str) ∧
  ∀ (ys : List Str) (p : Addr), ys.Perm xs → sortedS ys = true → H p = none → Q (.ref p) (upd H p (.lst (ys.map V.str)))
theorem call_sortLS : CallR X (.builtin "sorted") (rSortLS X.K) := by
  intro pins s σ H vs us Q I r h
  obtain ⟨a, ns, rfl, hs, q⟩ := h
  obtain ⟨its, rv, hl, hz⟩ := I.list hs
  rw [Vals.ref1 r]
  have hz' : its.length ≤ sizeLine := by rw [← rv.length]; exact hz
  refine PyProof.Rows.sorted_strsAny hl.isList rv.strs hz' fun out ns' h1 h2 h3 => ?_
  obtain ⟨ep, he'⟩ := PyProof.Rows.sortedAll_at s.heap its out
  have hlen : (ns'.map V.str).length ≤ sizeLine := by rw [List.length_map, h2.length_eq, ← List.length_map (f := V.str)]; exact hz
  exact ⟨.ref _, upd H (s.heap.objs.size + 1) (.lst (ns'.map V.str)), I.laid (t' := s.toks) (fun _ _ => PyProof.Rows.sortedAll_old) (Nat.le_succ _) ⟨hlen, out.toList, ep, vals_of_strs h1, he'⟩, rfl, q ns' _ h2 h3 (I.hok.fresh (Nat.le_succ _))⟩
theorem RepK.keys {F : Hp} : ∀ {kvs : List (Key × V)} {es : List (Key × D)}, RepK K F kvs es → kvs.map (·.1) = es.map (·.1)
  | _, _, .nil => rfl
  | _, _, .cons _ t => by rw [List.map_cons, List.map_cons, RepK.keys t]
def aSortD (m : Bool) : ASp := fun ds C P => match ds with
  | [d] => ∃ es ks, asK C d = some es ∧ es.map (·.1) = ks.map Sum.inl ∧ ∀ ys : List Int, ys.Perm ks → ys.Pairwise (· ≤ ·) → if m then ∀ p, C p = none → P (.ce p) (put C p (.lst (ys.map D.int))) else P (.lst (ys.map D.int)) C
  | _ => False
theorem ac_sortD {m : Bool} (hc : X.calm = true := by rfl) : ACa B X (.builtin "sorted") rSortDI (aSortD m) := ⟨call_sortDI hc, by
  intro vs ds F C R H Q P hS r h k
  unfold aSortD at h
  split at h
  · cases r with
    | cons r1 r2 =>
      cases r2
      obtain ⟨es, ks, h1, h2, h3⟩ := h
      obtain ⟨a, kvs, rfl, g1, g2⟩ := asK_ok hS r1 h1
      refine ⟨a, kvs, ks, rfl, .inl g1, by rw [RepK.keys g2, h2], fun ys p e1 e2 hp => ?_⟩
      have h4 := h3 ys e1 e2
      cases m with
      | true => exact k _ _ _ _ _ (Ex.refl F) (hS.newC hp (.lst (.ints ys))) (.ce p) (h4 p (hS.freeC hp))
      | false =>
        have e := Ex.new (o := .lst (ys.map V.int)) (hS.freeF hp)
        exact k _ _ _ C _ e (hS.newF hp _) (.lst upd_same (.ints ys)) h4
  · exact h.elim⟩
def aSortL (m : Bool) : ASp := fun ds C P => match ds with
  | [d] => ∃ (es : List D) (ks : List Int), asLr C d = some es ∧ es = ks.map D.int ∧ ∀ ys : List Int, ys.Perm ks → ys.Pairwise (· ≤ ·) → if m then ∀ p, C p = none → P (.ce p) (put C p (.lst (ys.map D.int))) else P (.lst (ys.map D.int)) C
  | _ => False
theorem ac_sortL {m : Bool} (hK : X.K = K := by rfl) : ACa B X (.builtin "sorted") (rSortLI K) (aSortL m) := by
  subst hK
  exact ⟨call_sortLI, by
  intro vs ds F C R H Q P hS r h k
  unfold aSortL at h
  split at h
  · cases r with
    | cons r1 r2 =>
      cases r2
      obtain ⟨es, ks, h1, h2, h3⟩ := h
      subst h2
      obtain ⟨a, kvs, rfl, g1, g2⟩ := asLr_ok hS r1 h1
      rw [g2.ofInts] at g1
      refine ⟨a, ks, rfl, g1, fun ys p e1 e2 hp => ?_⟩
      have h4 := h3 ys e1 e2
      cases m with
      | true => exact k _ _ _ _ _ (Ex.refl F) (hS.newC hp (.lst (.ints ys))) (.ce p) (h4 p (hS.freeC hp))
      | false =>
        have e := Ex.new (o := .lst (ys.map V.int)) (hS.freeF hp)
        exact k _ _ _ C _ e (hS.newF hp _) (.lst upd_same (.ints ys)) h4
  · exact h.elim⟩
def aSortS (m : Bool) : ASp := fun ds C P => match ds with
  | [d] => ∃ (es : List D) (ks : List Str), asLr C d = some es ∧ es = ks.map D.str ∧ ∀ ys : List Str, ys.Perm ks → sortedS ys = true → if m then ∀ p, C p = none → P (.ce p) (put C p (.lst (ys.map D.str))) else P (.lst (ys.map D.str)) C
  | _ => False
theorem ac_sortS {m : Bool} (hK : X.K = K := by rfl) : ACa B X (.builtin "sorted") (rSortLS K) (aSortS m) := by
  subst hK
  exact ⟨call_sortLS, by
  intro vs ds F C R H Q P hS r h k
  unfold aSortS at h
  split at h
  · cases r with
    | cons r1 r2 =>
      cases r2
      obtain ⟨es, ks, h1, h2, h3⟩ := h
      subst h2
      obtain ⟨a, kvs, rfl, g1, g2⟩ := asLr_ok hS r1 h1
      rw [g2.ofStrs] at g1
      refine ⟨a, ks, rfl, g1, fun ys p e1 e2 hp => ?_⟩
      have h4 := h3 ys e1 e2
      cases m with
      | true => exact k _ _ _ _ _ (Ex.refl F) (hS.newC hp (.lst (.strs ys))) (.ce p) (h4 p (hS.freeC hp))
      | false =>
        have e := Ex.new (o := .lst (ys.map V.str)) (hS.freeF hp)
        exact k _ _ _ C _ e (hS.newF hp _) (.lst upd_same (.strs ys)) h4
  · exact h.elim⟩
/-! ### dict(pairs) -/
def pairsD : List D → Option (List (Key × D))
  | [] => some []
  | .tup [.int i, d] :: ds => (pairsD ds).map ((.inl i, d) :: ·)
  | .tup [.str i, d] :: ds => (pairsD ds).map ((.inr i, d) :: ·)
  | _ => none
theorem pairsD_map : ∀ es : List (Key × D), pairsD (es.map fun e => .tup [keyD e.1, e.2]) = some es
  | [] => rfl
  | (.inl i, d) :: es => by
    have ih := pairsD_map es
    rw [List.map_cons]
    show Option.map _ (pairsD _) = _
    rw [ih]; rfl
  | (.inr i, d) :: es => by
    have ih := pairsD_map es
    rw [List.map_cons]
    show Option.map _ (pairsD _) = _
    rw [ih]; rfl
theorem pairsD_ok : ∀ {ds : List D} {es : List (Key × D)}, pairsD ds = some es → ds = es.map fun e => .tup [keyD e.1, e.2]
  | [], _, h => by cases h; rfl
  | d :: ds, _, h => by
    unfold pairsD at h
    split at h
    · rename_i e; cases e
    · rename_i e; cases e
      obtain ⟨ks, h1, rfl⟩ := Option.map_eq_some_iff.mp h
      rw [List.map_cons, ← pairsD_ok h1]
      rfl
    · rename_i e; cases e
      obtain ⟨ks, h1, rfl⟩ := Option.map_eq_some_iff.mp h
      rw [List.map_cons, ← pairsD_ok h1]
      rfl
    · cases h
theorem rep_key {F : Hp} {v : V} : ∀ {k : Key}, Rep K F v (keyD k) → v = kV k
  | .inl _, .int _ => rfl
  | .inr _, .str _ => rfl
theorem rep_pairs {F : Hp} : ∀ {es : List (Key × D)} {vs : List V}, RepL K F vs (es.map fun e => .tup [keyD e.1, e.2]) → ∃ (ps : List Addr) (kvs : List (Key × V)), vs = ps.map V.ref ∧ Paired (fun p kv => F p = some (.tup [kV kv.1, kv.2])) ps kvs ∧ RepK K F kvs es
  | [], _, .nil => ⟨[], [], rfl, .nil, .nil⟩
  | (k, d) :: es, _, .cons r t => by
    obtain ⟨ps, kvs, rfl, h1, h2⟩ := rep_pairs t
    cases r with
    | tup e q =>
      cases q with
      | cons q1 q2 =>
        cases q2 with
        | cons q3 q4 =>
          cases q4
          have := rep_key q1
          subst this
          exact ⟨_ :: ps, (k, _) :: kvs, rfl, .cons e h1, .cons q3 h2⟩
def rDictP (K : PySem.W.Frag) : List V → Hp → VK → Prop := fun xs H Q => ∃ (a : Addr) (ps : List Addr) (kvs : List (Key × V)), xs = [.ref a] ∧ SqL K H a (ps.map V.ref) ∧ Paired (fun p kv => SqT K H p [kV kv.1, kv.2]) ps kvs ∧
    ∀ p, H p = none → Q (.ref p) (upd H p (.dK (mergeK [] kvs)))
def aDictP (m : Bool) : ASp := fun ds C P => match ds with
  | [d] => ∃ ws es, asLr C d = some ws ∧ pairsD ws = some es ∧ if m then ∀ p, C p = none → P (.ce p) (put C p (.dk (mergeD [] es))) else P (.dk (mergeD [] es)) C
  | _ => False
theorem ac_dictP {m : Bool} (hc : X.calm = true := by rfl) (hK : X.K = K := by rfl) : ACa B X (.type "dict") (rDictP K) (aDictP m) := by
  subst hK
  exact ⟨call_dictP hc, by
  intro vs ds F C R H Q P hS r h k
  unfold aDictP at h
  split at h
  · cases r with
    | cons r1 r2 =>
      cases r2
      obtain ⟨ws, es, h1, h2, h3⟩ := h
      have := pairsD_ok h2
      subst this
      obtain ⟨a, xs, rfl, g1, g2⟩ := asLr_ok hS r1 h1
      obtain ⟨ps, kvs, rfl, g3, g4⟩ := rep_pairs g2
      refine ⟨a, ps, kvs, rfl, g1, Paired.mapP g3 fun _ _ z => SqT.of (hS.ex _ _ z), fun p hp => ?_⟩
      have g5 := RepK.merge g4 .nil
      cases m with
      | true => exact k _ _ _ _ _ (Ex.refl F) (hS.newC hp (.dk g5)) (.ce p) (h3 p (hS.freeC hp))
      | false =>
        have e := Ex.new (o := .dK (mergeK [] kvs)) (hS.freeF hp)
        exact k _ _ _ C _ e (hS.newF hp _) (.dk upd_same (g5.mono e)) h3
  · exact h.elim⟩
/-! ### list * int -/
theorem RepL.times {F : Hp} {xs : List V} {ds : List D} (r : RepL K F xs ds) : ∀ n, RepL K F (List.replicate n xs).flatten (List.replicate n ds).flatten
  | 0 => .nil
  | n + 1 => by
    rw [List.replicate_succ, List.replicate_succ, List.flatten_cons, List.flatten_cons]
    exact r.append (RepL.times r n)
def aRepL (m : Bool) : D → D → AH → (D → AH → Prop) → Prop := fun x y C P => match y with
  | .int k => ∃ ds, asL C x = some ds ∧ -(2 ^ 63) ≤ k ∧ k < 2 ^ 63 ∧ ds.length * k.toNat ≤ sizeLine ∧ if m then ∀ p, C p = none → P (.ce p) (put C p (.lst (List.replicate k.toNat ds).flatten)) else P (.lst (List.replicate k.toNat ds).flatten) C
  | _ => False
theorem ao_repL {m : Bool} : AOp B X (binaryOp .Mult) L2.rRep (aRepL m) := ⟨op_rep, by
  intro v w d e F C R H Q P hS r1 r2 h k
  unfold aRepL at h
  split at h
  · rename_i y0 kk
    cases r2
    obtain ⟨ds, h1, h2, h3, h4, h5⟩ := h
    obtain ⟨a, xs, rfl, g1, g2⟩ := asL_ok hS r1 h1
    refine ⟨a, _, xs, rfl, rfl, g1, h2, h3, by rw [g2.length]; exact h4, fun p hp => ?_⟩
    have g3 := g2.times
    cases m with
    | true => exact k _ _ _ _ _ (Ex.refl F) (hS.newC hp (.lst (g3 _))) (.ce p) (h5 p (hS.freeC hp))
    | false =>
      have e : Ex F (upd F p (.lst (List.replicate kk.toNat xs).flatten)) := Ex.new (hS.freeF hp)
      exact k _ _ _ C _ e (hS.newF hp _) (.lst upd_same ((g3 _).mono e)) h5
  · exact h.elim⟩
/-! ### max(xs), min(xs) of numbers -/
def aMaxL : ASp := fun ds C P => match ds with
  | [d] => ∃ (es : List D) (ks : List Int), asLr C d = some es ∧ es = ks.map D.int ∧ 0 < ks.length ∧ ∀ m : Int, m ∈ ks → (∀ y, y ∈ ks → y ≤ m) → P (.int m) C
  | _ => False
theorem ac_maxL (hc : X.calm = true := by rfl) (hK : X.K = K := by rfl) : ACa B X (.builtin "max") (rMax K) aMaxL := by
  subst hK
  exact ⟨cr_max hc, by
  intro vs ds F C R H Q P hS r h k
  unfold aMaxL at h
  split at h
  · cases r with
    | cons r1 r2 =>
      cases r2
      obtain ⟨es, ks, h1, h2, h3, h4⟩ := h
      subst h2
      obtain ⟨a, kvs, rfl, g1, g2⟩ := asLr_ok hS r1 h1
      rw [g2.ofInts] at g1
      exact ⟨a, ks, rfl, g1, h3, fun m e1 e2 => k _ _ F C H (Ex.refl F) hS (.int _) (h4 m e1 e2)⟩
  · exact h.elim⟩
def aMinL : ASp := fun ds C P => match ds with
  | [d] => ∃ (es : List D) (ks : List Int), asLr C d = some es ∧ es = ks.map D.int ∧ 0 < ks.length ∧ ∀ m : Int, m ∈ ks → (∀ y, y ∈ ks → m ≤ y) → P (.int m) C
  | _ => False
theorem ac_minL (hc : X.calm = true := by rfl) (hK : X.K = K := by rfl) : ACa B X (.builtin "min") (rMin K) aMinL := by
  subst hK
  exact ⟨cr_min hc, by
  intro vs ds F C R H Q P hS r h k
  unfold aMinL at h
  split at h
  · cases r with
    | cons r1 r2 =>
      cases r2
      obtain ⟨es, ks, h1, h2, h3, h4⟩ := h
      subst h2
      obtain ⟨a, kvs, rfl, g1, g2⟩ := asLr_ok hS r1 h1
      rw [g2.ofInts] at g1
      exact ⟨a, ks, rfl, g1, h3, fun m e1 e2 => k _ _ F C H (Ex.refl F) hS (.int _) (h4 m e1 e2)⟩
  · exact h.elim⟩
end
end AL

namespace AL
open PySem PySem.Spec PyProof.Rows L2
variable {B : Bs}
section
variable {X : Cx} {K : PySem.W.Frag}
/-! ### ==, lists of cells too -/
def pdLC (C : AH) : List D → Option (List PyData)
  | [] => some []
  | d :: ds => match pdC C d, pdLC C ds with | some x, some xs => some (x :: xs) | _, _ => none
def pd2 (C : AH) : D → Option PyData
  | .lst ds => (pdLC C ds).map .list
  | d => pdC C d
theorem pdLC_ok {F : Hp} {C : AH} {R H : Hp} (hS : Sat B K F C R H) : ∀ {vs : List V} {ds : List D} {xs : List PyData}, RepL K F vs ds → pdLC C ds = some xs → DpAll K H vs xs
  | _, [], _, .nil, h => by cases h; exact .nil
  | _, d :: ds, _, .cons r1 r2, h => by
    unfold pdLC at h
    split at h
    · rename_i q1 q2
      cases h
      exact .cons (pdC_ok hS r1 q1) (pdLC_ok hS r2 q2)
    · cases h
theorem pd2_ok {F : Hp} {C : AH} {R H : Hp} {v : V} {d : D} {x : PyData} (hS : Sat B K F C R H) (r : Rep K F v d) (h : pd2 C d = some x) : Dp K H v x := by
  cases d with
  | lst ds =>
    cases r with
    | lst h1 h2 =>
      simp only [pd2] at h
      cases q : pdLC C ds with
      | none => rw [q] at h; cases h
      | some xs => rw [q] at h; cases h; exact .lst (SqL.of (hS.ex _ _ h1)) (pdLC_ok hS h2 q)
  | _ => exact pdC_ok hS r h
def aEq2 (neg : Bool) : D → D → AH → (D → AH → Prop) → Prop := fun x y C P => aEqN neg x y C P ∨ ∃ d e, pd2 C x = some d ∧ pd2 C y = some e ∧ SeqAt.shaped d = true ∧ SeqAt.shaped e = true ∧ P (.bl (if neg then !PyData.eqv d e else PyData.eqv d e)) C
theorem ao_eq2 (hu : X.A.units + 64 < cLine) (hK : X.K = K := by rfl) : AOp B X (compareOp .Eq) (fun x y H Q => rEq x y H Q ∨ rEqD K x y H Q) (aEq2 false) := by
  subst hK
  refine ⟨op_eq.or (op_eqD hu), ?_⟩
  intro v w d e F C R H Q P hS r1 r2 h k
  rcases h with h | ⟨d', e', h1, h2, s1, s2, h3⟩
  · exact (sim_eq (B := B)) v w d e F C R H Q P hS r1 r2 h k
  · exact .inr ⟨d', e', pd2_ok hS r1 h1, pd2_ok hS r2 h2, s1, s2, k _ _ F C H (Ex.refl F) hS (.bl _) h3⟩
theorem ao_ne2 (hu : X.A.units + 64 < cLine) (hK : X.K = K := by rfl) : AOp B X (compareOp .NotEq) (fun x y H Q => rNe x y H Q ∨ rNeD K x y H Q) (aEq2 true) := by
  subst hK
  refine ⟨op_ne.or (op_neD hu), ?_⟩
  intro v w d e F C R H Q P hS r1 r2 h k
  rcases h with h | ⟨d', e', h1, h2, s1, s2, h3⟩
  · exact (sim_ne (B := B)) v w d e F C R H Q P hS r1 r2 h k
  · exact .inr ⟨d', e', pd2_ok hS r1 h1, pd2_ok hS r2 h2, s1, s2, k _ _ F C H (Ex.refl F) hS (.bl _) h3⟩
/-! ### list(d) -/
theorem keys_rep {F : Hp} : ∀ {kvs : List (Key × V)} {es : List (Key × D)}, RepK K F kvs es → RepL K F (kvs.map fun kv => kV kv.1) (es.map fun e => keyD e.1)
  | _, _, .nil => .nil
  | _, _, .cons (k := k) _ t => .cons (by cases k <;> first | exact .int _ | exact .str _) (keys_rep t)
def aListK : ASp := fun ds C P => match ds with | [d] => (match asK C d with | some es => P (.lst (es.map fun e => keyD e.1)) C | none => False) | _ => False
theorem ac_listK (hc : X.calm = true := by rfl) : ACa B X (.type "list") (fun xs H Q => ∃ (a : Addr) (kvs : List (Key × V)), xs = [.ref a] ∧ Rd H a (.dK kvs) ∧ ∀ p, H p = none → Q (.ref p) (upd H p (.lst (kvs.map fun kv => kV kv.1)))) aListK := ⟨call_listD hc, by
  intro vs ds F C R H Q P hS r h k
  unfold aListK at h
  split at h
  · cases r with
    | cons r1 r2 =>
      cases r2
      split at h
      · rename_i es q
        obtain ⟨a, kvs, rfl, g1, g2⟩ := asK_ok hS r1 q
        refine ⟨a, kvs, rfl, .inl g1, fun p hp => ?_⟩
        have e := Ex.new (o := .lst (kvs.map fun kv => kV kv.1)) (hS.freeF hp)
        exact k _ _ _ C _ e (hS.newF hp _) (.lst upd_same ((keys_rep g2).mono e)) h
      · exact h.elim
  · exact h.elim⟩
/-! ### list(range(..)) -/
theorem rg_rep {F : Hp} (a b : Int) : RepL K F (rgV a b) (rangeD a (b - a).toNat) := by
  have e1 : rgV a b = ((List.range (b - a).toNat).map fun i => a + (i : Nat)).map V.int := by unfold rgV; rw [List.map_map]; rfl
  have e2 : rangeD a (b - a).toNat = ((List.range (b - a).toNat).map fun i => a + (i : Nat)).map D.int := by unfold rangeD; rw [List.map_map]; rfl
  rw [e1, e2]
  exact .ints _
def aLRg1 (m : Bool) (a : AE') : AE' := fun s C P => a s C fun x C1 => match x with
  | .int n => RgOk 0 n ∧ if m then ∀ p, C1 p = none → P (.ce p) (put C1 p (.lst (rangeD 0 n.toNat))) else P (.lst (rangeD 0 n.toNat)) C1
  | _ => False
theorem ae_lrg1 {m : Bool} {a : Expr} {ta : TE} {aa : AE'} {p p2 q pos : Pos} (hm : X.mg "list" = none) (hm2 : X.mg "range" = none) (ha : AE B X a ta aa) (hc : X.calm = true := by rfl) (hg : Gl X "list" := by rfl) (hg2 : Gl X "range" := by rfl)
    (na : starEach [a] X.env = (false, eval a X.env) :: starEach [] X.env := by rfl) (nb : starEach [.Call (.Name "range" p2) [a] [] q] X.env = (false, eval (.Call (.Name "range" p2) [a] [] q) X.env) :: starEach [] X.env := by rfl) :
    AE B X (.Call (.Name "list" p) [.Call (.Name "range" p2) [a] [] q] [] pos) (tLstRg (tRg1 ta)) (aLRg1 m aa) := ⟨pe_listRg hc hg hm (prg_1 hg2 hm2 ha.pe na) nb, by
  intro σ s F C R H Q P hs hS h0 k
  refine ha.sim σ s F C R H _ _ hs hS h0 fun x v F1 C1 H1 e1 S1 r1 h1 => ?_
  split at h1
  · cases r1
    rename_i n
    refine ⟨n, rfl, h1.1, fun p hp => ?_⟩
    have hr : ∀ F, RepL X.K F (rgV 0 n) (rangeD 0 n.toNat) := fun F => by have := rg_rep (K := X.K) (F := F) 0 n; rwa [Int.sub_zero] at this
    cases m with
    | true => exact k _ _ _ _ _ e1 (S1.newC hp (.lst (hr _))) (.ce p) (h1.2 p (S1.freeC hp))
    | false =>
      have e := Ex.new (o := .lst (rgV 0 n)) (S1.freeF hp)
      exact k _ _ _ C1 _ (e1.trans e) (S1.newF hp _) (.lst upd_same (hr _)) h1.2
  · exact h1.elim⟩
end
section
variable {C : AH} {P : D → AH → Prop} {s : ASt} {e : AE'}
def kLRg1 (m : Bool) (P : D → AH → Prop) : D → AH → Prop := fun x C1 => match x with
  | .int n => RgOk 0 n ∧ if m then ∀ p, C1 p = none → P (.ce p) (put C1 p (.lst (rangeD 0 n.toNat))) else P (.lst (rangeD 0 n.toNat)) C1
  | _ => False
theorem g_lrg1 {m : Bool} (h : e s C (kLRg1 m P)) : aLRg1 m e s C P := h
theorem g_kLRg1 {n : Nat} (h1 : n ≤ 1000000) (h : P (.lst (rangeD 0 n)) C) : kLRg1 false P (.int (n : Int)) C := ⟨⟨by omega, by omega, by omega, by omega, by omega⟩, h⟩
theorem g_listK {q : Addr} {es : List (Key × D)} (hq : C q = some (.dk es)) (h : P (.lst (es.map fun e => keyD e.1)) C) : aListK [.ce q] C P := by
  show (match asK C (.ce q) with | some es => P (.lst (es.map fun e => keyD e.1)) C | none => False)
  rw [show asK C (.ce q) = some es by simp only [asK, hq]]
  exact h
theorem g_listKF {es : List (Key × D)} (h : P (.lst (es.map fun e => keyD e.1)) C) : aListK [.dk es] C P := h
theorem g_sortD {es : List (Key × D)} {ks : List Int} (h1 : es.map (·.1) = ks.map Sum.inl) (h : ∀ ys : List Int, ys.Perm ks → ys.Pairwise (· ≤ ·) → P (.lst (ys.map D.int)) C) : aSortD false [.dk es] C P := ⟨es, ks, rfl, h1, fun ys a b => h ys a b⟩
theorem g_sortDM {es : List (Key × D)} {ks : List Int} (h1 : es.map (·.1) = ks.map Sum.inl) (h : ∀ ys : List Int, ys.Perm ks → ys.Pairwise (· ≤ ·) → ∀ p, C p = none → P (.ce p) (put C p (.lst (ys.map D.int)))) : aSortD true [.dk es] C P := ⟨es, ks, rfl, h1, fun ys a b => h ys a b⟩
theorem g_dictPM {es : List (Key × D)} (h : ∀ p, C p = none → P (.ce p) (put C p (.dk (mergeD [] es)))) : aDictP true [.lst (es.map fun e => .tup [keyD e.1, e.2])] C P := ⟨_, es, rfl, pairsD_map es, h⟩
theorem g_dictPF {es : List (Key × D)} (h : P (.dk (mergeD [] es)) C) : aDictP false [.lst (es.map fun e => .tup [keyD e.1, e.2])] C P := ⟨_, es, rfl, pairsD_map es, h⟩
end
end AL

namespace AL
open PySem L2
/-! ### dicts whose keys are numbers from 0 -/
def nk (n : Nat) : Key := .inl (n : Int)
theorem nk_inj {a b : Nat} (h : nk a = nk b) : a = b := by have := Sum.inl.inj h; omega
def Ky (es : List (Key × D)) (L : List Nat) : Prop := es.map (·.1) = L.map nk
def addN (L : List Nat) (n : Nat) : List Nat := if n ∈ L then L else L ++ [n]
theorem Ky.nil : Ky [] [] := rfl
theorem Ky.len {es : List (Key × D)} {L : List Nat} (h : Ky es L) : es.length = L.length := by
  have := congrArg List.length h
  simpa using this
theorem Ky.any {es : List (Key × D)} {L : List Nat} (h : Ky es L) (n : Nat) : (es.any fun kv => decide (kv.1 = nk n)) = decide (n ∈ L) := by
  have e : (es.any fun kv => decide (kv.1 = nk n)) = (es.map (·.1)).any fun k => decide (k = nk n) := by rw [List.any_map]; rfl
  rw [e, show es.map (·.1) = L.map nk from h, List.any_map, Bool.eq_iff_iff, List.any_eq_true, decide_eq_true_iff]
  constructor
  · rintro ⟨m, hm, e⟩
    have := nk_inj (of_decide_eq_true e)
    rw [← this]; exact hm
  · intro hm
    exact ⟨n, hm, decide_eq_true rfl⟩
theorem Ky.val {es : List (Key × D)} {L : List Nat} (h : Ky es L) (n : Nat) : (valD es (nk n)).isSome = decide (n ∈ L) := by
  rw [← h.any n]
  unfold valD
  rw [Option.isSome_map, Bool.eq_iff_iff, List.find?_isSome, List.any_eq_true]
theorem Ky.put {es : List (Key × D)} {L : List Nat} {d : D} (h : Ky es L) (n : Nat) : Ky (putD es (nk n) d) (addN L n) := by
  unfold putD addN
  rw [h.any]
  by_cases hn : n ∈ L
  · rw [decide_eq_true hn, if_pos rfl, if_pos hn]
    show (es.map _).map _ = _
    rw [List.map_map]
    have e : ((fun kv : Key × D => kv.1) ∘ fun kv : Key × D => if kv.1 = nk n then (kv.1, d) else kv) = fun kv => kv.1 := by
      funext kv
      simp only [Function.comp]
      split <;> rfl
    rw [e]
    exact h
  · rw [decide_eq_false hn, if_neg (by decide), if_neg hn]
    show (es ++ [_]).map _ = _
    rw [List.map_append, List.map_append, show es.map (·.1) = L.map nk from h]
    rfl
theorem mem_addN {L : List Nat} {n a : Nat} : a ∈ addN L n ↔ a ∈ L ∨ a = n := by
  unfold addN
  split
  · rename_i h
    constructor
    · intro h; exact .inl h
    · rintro (h' | rfl)
      · exact h'
      · exact h
  · simp
theorem nodup_addN {L : List Nat} {n : Nat} (h : L.Nodup) : (addN L n).Nodup := by
  unfold addN
  split
  · exact h
  · rename_i hn
    refine List.nodup_append.mpr ⟨h, by simp, ?_⟩
    intro a ha b hb e
    have : b = n := by simpa using hb
    exact hn (by rw [← this, ← e]; exact ha)
theorem Ky.merge : ∀ (xs : List Nat) (d : D) {es : List (Key × D)} {L : List Nat}, Ky es L → Ky (mergeD es (xs.map fun n => (nk n, d))) (xs.foldl addN L)
  | [], _, _, _, h => h
  | n :: xs, d, _, _, h => Ky.merge xs d (h.put n)
theorem mem_foldN : ∀ (xs : List Nat) {L : List Nat} {a : Nat}, a ∈ xs.foldl addN L ↔ a ∈ L ∨ a ∈ xs
  | [], L, a => by simp
  | n :: xs, L, a => by
    rw [List.foldl_cons, mem_foldN xs, mem_addN, List.mem_cons]
    constructor
    · rintro ((h | h) | h)
      · exact .inl h
      · exact .inr (.inl h)
      · exact .inr (.inr h)
    · rintro (h | h | h)
      · exact .inl (.inl h)
      · exact .inl (.inr h)
      · exact .inr h
theorem nodup_foldN : ∀ (xs : List Nat) {L : List Nat}, L.Nodup → (xs.foldl addN L).Nodup
  | [], _, h => h
  | n :: xs, _, h => nodup_foldN xs (nodup_addN h)
section
variable {C : AH} {P : D → AH → Prop} {s : ASt} {q : Addr} {es : List (Key × D)} {L : List Nat} {n : Nat} {nx : ASt → AH → Prop} {rt : D → AH → Prop} {bk ct : ASt → AH → Prop}
theorem asK_ce (h : C q = some (.dk es)) : asK C (.ce q) = some es := by simp only [asK, h]
theorem g_inKv {neg : Bool} {i j : Nat} (hi : s[i]? = some (some (.int (n : Int)))) (hj : s[j]? = some (some (.ce q))) (hC : C q = some (.dk es)) (hK : Ky es L) (h : P (.bl (if neg then !decide (n ∈ L) else decide (n ∈ L))) C) : aInK neg (aVar i) (aVar j) s C P := by
  refine g_var hi ?_
  refine g_var hj ?_
  rw [asK_ce hC, show AL.keyOf (.int (n : Int)) = some (nk n) from rfl]
  show P _ C
  rw [hK.val]
  exact h
theorem g_inKn {i j : Nat} (hi : s[i]? = some (some (.int (n : Int)))) (hj : s[j]? = some (some (.ce q))) (hC : C q = some (.dk es)) (hK : Ky es L) (h1 : n ∈ L → P (.bl true) C) (h2 : n ∉ L → P (.bl false) C) : aInK false (aVar i) (aVar j) s C P := by
  refine g_inKv hi hj hC hK ?_
  by_cases h : n ∈ L
  · rw [decide_eq_true h]; exact h1 h
  · rw [decide_eq_false h]; exact h2 h
theorem g_ninKn {i j : Nat} (hi : s[i]? = some (some (.int (n : Int)))) (hj : s[j]? = some (some (.ce q))) (hC : C q = some (.dk es)) (hK : Ky es L) (h1 : n ∈ L → P (.bl false) C) (h2 : n ∉ L → P (.bl true) C) : aInK true (aVar i) (aVar j) s C P := by
  refine g_inKv hi hj hC hK ?_
  by_cases h : n ∈ L
  · rw [decide_eq_true h]; exact h1 h
  · rw [decide_eq_false h]; exact h2 h
theorem g_putKv {i j : Nat} {d : D} (hi : s[i]? = some (some (.ce q))) (hj : s[j]? = some (some (.int (n : Int)))) (hC : C q = some (.dk es)) (hK : Ky es L) (hl : L.length ≤ 10000000) (h : ∀ es', Ky es' (addN L n) → nx s (put C q (.dk es'))) : aPutK (aVar i) (aVar j) (aC d) ⟨nx, rt, bk, ct⟩ s C := by
  unfold aPutK aC
  refine g_var hi ?_
  refine g_var hj ?_
  rw [show AL.keyOf (.int (n : Int)) = some (nk n) from rfl]
  show (match C q with | some (.dk es) => es.length < sizeLine ∧ _ | _ => False)
  rw [hC]
  exact ⟨by rw [hK.len]; simp only [sizeLine]; omega, h _ (hK.put n)⟩
theorem g_neNats {ns : List Nat} (hC : C q = some (.lst (natsD ns))) (h : P (.bl (!ns.isEmpty)) C) : aNe (.ce q) (.lst []) C P := by
  obtain ⟨x, h1, h2, h3⟩ := okD_shaped (okD_nats ns 1) (by omega)
  have e1 : pdC C (.ce q) = some x := by
    simp only [pdC, hC]
    rw [← h1]
    simp only [D.pd]
  refine g_neP rfl e1 (v := .list []) rfl h2 (by decide +kernel) ?_
  cases ns with
  | nil =>
    have : x = .list [] := by simpa [D.pd, pdL, eq_comm] using h1
    subst this
    rw [show PyData.eqv (.list []) (.list []) = true by decide +kernel]
    exact h
  | cons a ns =>
    have : ∃ ys, x = .list (.int a :: ys) := by
      simp only [D.pd, natsD, List.map_cons, pdL] at h1
      cases e : pdL (ns.map fun (n : Nat) => D.int (n : Int)) with
      | none => rw [e] at h1; cases h1
      | some ys => rw [e] at h1; cases h1; exact ⟨ys, rfl⟩
    obtain ⟨ys, rfl⟩ := this
    rw [show PyData.eqv (.list (.int a :: ys)) (.list []) = false by rw [PyData.eqv, PyData.eqvAll]]
    exact h
theorem g_neNatsF {ns : List Nat} (h : P (.bl (!ns.isEmpty)) C) : aNe (.lst (natsD ns)) (.lst []) C P := by
  obtain ⟨x, h1, h2, h3⟩ := okD_shaped (okD_nats ns 1) (by omega)
  refine g_neP rfl (show pdC C (.lst (natsD ns)) = some x from h1) (v := .list []) rfl h2 (by decide +kernel) ?_
  cases ns with
  | nil =>
    have : x = .list [] := by simpa [D.pd, pdL, eq_comm] using h1
    subst this
    rw [show PyData.eqv (.list []) (.list []) = true by decide +kernel]
    exact h
  | cons a ns =>
    have : ∃ ys, x = .list (.int a :: ys) := by
      simp only [D.pd, natsD, List.map_cons, pdL] at h1
      cases e : pdL (ns.map fun (n : Nat) => D.int (n : Int)) with
      | none => rw [e] at h1; cases h1
      | some ys => rw [e] at h1; cases h1; exact ⟨ys, rfl⟩
    obtain ⟨ys, rfl⟩ := this
    rw [show PyData.eqv (.list (.int a :: ys)) (.list []) = false by rw [PyData.eqv, PyData.eqvAll]]
    exact h
theorem toVs_nats : ∀ ns : List Nat, toVs (natsD ns) = some (ns.map fun (n : Nat) => V.int n)
  | [] => rfl
  | n :: ns => by
    show (match toV (.int (n : Int)), toVs (natsD ns) with | some v, some vs => some (v :: vs) | _, _ => none) = _
    rw [toVs_nats ns]
    rfl
theorem inV_nats (n : Nat) (ns : List Nat) : inV (.int (n : Int)) (ns.map fun (n : Nat) => V.int n) = decide (n ∈ ns) := by
  induction ns with
  | nil => rfl
  | cons a ns ih =>
    have : inV (.int (n : Int)) ((a :: ns).map fun (n : Nat) => V.int n) = (eqV (.int (a : Int)) (.int (n : Int)) || inV (.int (n : Int)) (ns.map fun (n : Nat) => V.int n)) := rfl
    rw [this, ih]
    have e : eqV (.int (a : Int)) (.int (n : Int)) = decide (n = a) := by
      show (((a : Int)) == (n : Int)) = _
      rw [Bool.eq_iff_iff, beq_iff_eq, decide_eq_true_iff]
      omega
    rw [e]
    simp [Bool.decide_or]
theorem g_inNats {ns : List Nat} (h : P (.bl (decide (n ∈ ns))) C) : aInL (.int (n : Int)) (.lst (natsD ns)) C P := by
  show (match toV (.int (n : Int)), (some (natsD ns)).bind toVs with | some u, some us => P (.bl (if false then !inV u us else inV u us)) C | _, _ => False)
  rw [show (some (natsD ns)).bind toVs = toVs (natsD ns) from rfl, toVs_nats]
  show P (.bl (inV (.int (n : Int)) _)) C
  rw [inV_nats]
  exact h
theorem g_popN {ns : List Nat} {a : Nat} (hC : C q = some (.lst (natsD (ns ++ [a])))) (h : P (.int (a : Int)) (put C q (.lst (natsD ns)))) : aPop (.ce q) [] C P := by
  show (match C q with | some (.lst us) => (match us[us.length - 1]? with | some d => P d (put C q (.lst us.dropLast)) | none => False) | _ => False)
  rw [hC]
  have e : natsD (ns ++ [a]) = natsD ns ++ [.int (a : Int)] := by unfold natsD; rw [List.map_append]; rfl
  rw [e]
  show (match (natsD ns ++ [D.int (a : Int)])[(natsD ns ++ [D.int (a : Int)]).length - 1]? with | some d => P d (put C q (.lst (natsD ns ++ [D.int (a : Int)]).dropLast)) | none => False)
  rw [List.length_append, show (natsD ns).length + [D.int (a : Int)].length - 1 = (natsD ns).length by simp, List.getElem?_append_right (Nat.le_refl _), Nat.sub_self, List.dropLast_concat]
  exact h
end
/-! ### rising lists -/
theorem incr_ext : ∀ {xs ys : List Nat}, xs.Pairwise (· < ·) → ys.Pairwise (· < ·) → (∀ a, a ∈ xs ↔ a ∈ ys) → xs = ys
  | [], [], _, _, _ => rfl
  | [], y :: ys, _, _, h => absurd ((h y).mpr List.mem_cons_self) (by simp)
  | x :: xs, [], _, _, h => absurd ((h x).mp List.mem_cons_self) (by simp)
  | x :: xs, y :: ys, h1, h2, h => by
    obtain ⟨a1, a2⟩ := List.pairwise_cons.mp h1
    obtain ⟨b1, b2⟩ := List.pairwise_cons.mp h2
    have e : x = y := by
      rcases List.mem_cons.mp ((h x).mp List.mem_cons_self) with e | e
      · exact e
      · rcases List.mem_cons.mp ((h y).mpr List.mem_cons_self) with e' | e'
        · exact e'.symm
        · have := a1 y e'; have := b1 x e; omega
    subst e
    rw [incr_ext a2 b2 fun a => ?_]
    constructor
    · intro ha
      rcases List.mem_cons.mp ((h a).mp (List.mem_cons_of_mem _ ha)) with e | e
      · have := a1 a ha; omega
      · exact e
    · intro ha
      rcases List.mem_cons.mp ((h a).mpr (List.mem_cons_of_mem _ ha)) with e | e
      · have := b1 a ha; omega
      · exact e
open Classical in
/-- those below n of which p is so, rising -/
noncomputable def rl (n : Nat) (p : Nat → Prop) : List Nat := (List.range n).filter fun i => decide (p i)
open Classical in
theorem rl_incr (n : Nat) (p : Nat → Prop) : (rl n p).Pairwise (· < ·) := List.Pairwise.filter _ List.pairwise_lt_range
open Classical in
theorem mem_rl {n : Nat} {p : Nat → Prop} {a : Nat} : a ∈ rl n p ↔ a < n ∧ p a := by
  unfold rl
  rw [List.mem_filter, List.mem_range, decide_eq_true_iff]
open Classical in
theorem rl_len (n : Nat) (p : Nat → Prop) : (rl n p).length ≤ n := by
  have := List.length_filter_le (fun i => decide (p i)) (List.range n)
  rw [List.length_range] at this
  exact this
theorem incr_of_sorted {ys : List Int} {L : List Nat} (h1 : ys.Perm (L.map fun (n : Nat) => (n : Int))) (h2 : ys.Pairwise (· ≤ ·)) (h3 : L.Nodup) : ∃ R : List Nat, ys = R.map (fun (n : Nat) => (n : Int)) ∧ R.Pairwise (· < ·) ∧ ∀ a, a ∈ R ↔ a ∈ L := by
  have hnn : ∀ y ∈ ys, ∃ n : Nat, y = n := fun y hy => by
    obtain ⟨n, _, rfl⟩ := List.mem_map.mp (h1.mem_iff.mp hy)
    exact ⟨n, rfl⟩
  have e : ys = (ys.map Int.toNat).map (fun (n : Nat) => (n : Int)) := by
    rw [List.map_map]
    refine (List.map_id _).symm.trans (List.map_congr_left fun y hy => ?_)
    obtain ⟨n, rfl⟩ := hnn y hy
    rfl
  have hR : (ys.map Int.toNat).Perm L := by
    have := h1.map Int.toNat
    rw [List.map_map] at this
    have e2 : L.map (Int.toNat ∘ fun (n : Nat) => (n : Int)) = L := (List.map_congr_left fun y hy => rfl).trans (List.map_id _)
    rw [e2] at this
    exact this
  have hnd : (ys.map Int.toNat).Nodup := hR.nodup_iff.mpr h3
  have hp : (ys.map Int.toNat).Pairwise (· ≤ ·) := List.pairwise_map.mpr (h2.imp fun h => by omega)
  refine ⟨_, e, ?_, fun a => hR.mem_iff⟩
  have := List.pairwise_and_iff.mpr ⟨hp, hnd⟩
  exact this.imp fun ⟨a, b⟩ => Nat.lt_of_le_of_ne a b
theorem sorted_rl {n : Nat} {p : Nat → Prop} {ys : List Int} {L : List Nat} (h1 : ys.Perm (L.map fun (n : Nat) => (n : Int))) (h2 : ys.Pairwise (· ≤ ·)) (h3 : L.Nodup) (h4 : ∀ a, a ∈ L ↔ a < n ∧ p a) : ys.map D.int = natsD (rl n p) := by
  obtain ⟨R, rfl, g1, g2⟩ := incr_of_sorted h1 h2 h3
  rw [incr_ext g1 (rl_incr n p) fun a => (g2 a).trans ((h4 a).trans mem_rl.symm)]
  unfold natsD
  rw [List.map_map]
  rfl
/-! ### what is led to -/
inductive Reach (R : Nat → Nat → Prop) (S : List Nat) : Nat → Prop
  | base {a : Nat} : a ∈ S → Reach R S a
  | step {a b : Nat} : Reach R S a → R a b → Reach R S b
/-- a list that is closed holds all -/
theorem Reach.closed {R : Nat → Nat → Prop} {S L : List Nat} (h0 : ∀ a ∈ S, a ∈ L) (h1 : ∀ a ∈ L, ∀ b, R a b → b ∈ L) {a : Nat} (h : Reach R S a) : a ∈ L := by
  induction h with
  | base h => exact h0 _ h
  | step _ r ih => exact h1 _ ih _ r
theorem nodup_bound {L : List Nat} {n : Nat} (h : L.Nodup) (hb : ∀ a ∈ L, a < n) : L.length ≤ n := by
  have : ∀ {l m : List Nat}, l.Nodup → (∀ x ∈ l, x ∈ m) → l.length ≤ m.length := by
    intro l
    induction l with
    | nil => intro m _ _; exact Nat.zero_le _
    | cons x l ih =>
      intro m hn hs
      obtain ⟨hx, hn⟩ := List.nodup_cons.mp hn
      have h1 := hs x (List.mem_cons_self ..)
      have := ih (m := m.erase x) hn fun y hy => (List.mem_erase_of_ne (fun e => hx (by rw [← e]; exact hy))).mpr (hs y (List.mem_cons_of_mem _ hy))
      rw [List.length_erase_of_mem h1] at this
      have := List.length_pos_of_mem h1
      rw [List.length_cons]
      omega
  have h2 := this h (m := List.range n) fun x hx => List.mem_range.mpr (hb x hx)
  rw [List.length_range] at h2
  exact h2
end AL

namespace AL
open PySem PySem.Spec PyProof.Rows L2
open AutoSeq1 (wpAny_loadPart')
variable {B : Bs}
/-! ### xs.extend(a tuple) -/
theorem extTup (p q : Addr) (us ws : Array Value) (n m : Nat) (dd : Option Addr) (sl : Array (Option Value)) (c0 : ¬(!us.isEmpty && Builtin.List.listTooLong (us.size + ws.size)) = true) (c1 : us.size ≤ sizeLine) (c2 : us.size + ws.size ≤ sizeLine + 1) :
    Meets (Builtin.«list.extend» ⟨[.ref p, .ref q], []⟩) (fun _ R s => s.heap.get? p = some { cls := .type "list", dict := none, data := .seq us n, slots := #[] } ∧ s.heap.get? q = some { cls := .type "tuple", dict := dd, data := .seq ws m, slots := sl } ∧
      R (.ok (.ret Value.none)) { s with heap := s.heap.update p (Obj.mapSeq fun x => x ++ ws), toks := s.toks }) :=
  .of_wp fun prog w A R s h => by
    obtain ⟨hp, g, d, tk, os⟩ := s
    obtain ⟨e1, e2, e3⟩ := h
    have i1 := AutoSeq1.idx_int
    have i2 := AutoSeq1.sub_tuple_tuple
    have i3 := AutoSeq1.sub_list_list
    have i4 := AutoSeq1.sub_tuple_list
    have i5 := AutoSeq1.sub_list_tuple
    have c3 : (us ++ ws).size ≤ sizeLine + 1 := by rw [Array.size_append]; exact c2
    wp_walk using (AutoSeq1.wpAny_updateSeq e1 rfl (hz := c1) (_hz' := c3)), wpAny_loadPart' e1, wpAny_loadPart' e2
    rw [show (Obj.mapSeq (fun x => x ++ ws) { cls := Value.type "list", data := Data.seq us n : Obj }).data.pastItsLine = none from pastItsLine_seq (by rw [Array.size_append]; exact c2)]
    exact wpAny_pure (wpAny_pure ⟨_, rfl, e3⟩)
section
variable {X : Cx} {K : PySem.W.Frag}
def rExtT (K : PySem.W.Frag) : V → List V → Hp → VK → Prop := fun x vs H Q => ∃ l b xs zs, x = .ref l ∧ vs = [.ref b] ∧ H l = some (.lst xs) ∧ SqT K H b zs ∧ xs.length + zs.length ≤ 16000000 ∧ Q .non (upd H l (.lst (xs ++ zs)))
theorem mt_extT : MtM X "list.extend" (rExtT X.K) := by
  intro pins s σ H x vs v us Q I rx rv h
  obtain ⟨l, b, xs, zs, rfl, rfl, hH, hB, hz, q⟩ := h
  cases rx
  obtain ⟨u, rfl, ru⟩ := rv.one
  cases ru
  obtain ⟨z, its, n, r, hl, e⟩ := I.lstM hH
  obtain ⟨its2, r2, ⟨⟨cls, dd, data, sl⟩, ho, hc, n2, hd⟩, hs⟩ := I.tuple hB
  simp only at hc hd
  subst hc hd
  have hl2 : its2.length = zs.length := r2.length.symm
  have hsl := sizeLine_eq
  have hsz : its.toArray.size + its2.toArray.size ≤ sizeLine := by rw [List.size_toArray, List.size_toArray]; omega
  have hlong : ¬ (!its.toArray.isEmpty && Builtin.List.listTooLong (its.toArray.size + its2.toArray.size)) = true := by
    rw [notLongL hsz, Bool.and_false]
    decide
  refine call_meets F.slot_list_extend ⟨_, e, rfl⟩ F.entry_list_extend (F.args_list_extend_2 _ _)
    (extTup l b its.toArray its2.toArray n n2 dd sl hlong (by rw [List.size_toArray]; omega) (by omega)) ⟨e, ho, ?_⟩
  refine ⟨.non, _, I.lset (its' := its ++ its2) hH e (by simp) (r.append r2) (by rw [List.length_append]; omega), rfl, q⟩
def aExtT : D → ASp := fun x ds C P => match x, ds with
  | .ce p, [.tup ws] => (match C p with | some (.lst us) => us.length + ws.length ≤ 16000000 ∧ P .non (put C p (.lst (us ++ ws))) | _ => False)
  | _, _ => False
theorem am_extT (hK : X.K = K := by rfl) : AMt B X "list.extend" (rExtT K) aExtT := by
  subst hK
  exact ⟨fun pins s σ H x xs v us Q I r1 r2 h => mt_extT pins s σ H x xs v us Q I r1 r2 h, by
  intro v d vs ds F C R H Q P hS r1 r2 h k
  unfold aExtT at h
  split at h
  · cases r1
    cases r2 with
    | cons r2 r3 =>
      cases r3
      split at h
      · rename_i e
        obtain ⟨xs, h1, h2⟩ := cellL hS e
        cases r2 with
        | tup g1 g2 => exact ⟨_, _, xs, _, rfl, rfl, h1, SqT.of (hS.ex _ _ g1), by rw [h2.length, g2.length]; exact h.1, k _ _ F _ _ (Ex.refl F) (hS.mutC e (.lst (h2.append g2))) .non h.2⟩
      · exact h.elim
  · exact h.elim⟩
/-! ### x.split(sep) -/
def aSplit : D → ASp := fun x ds C P => match x, ds with
  | .str a, [.str b] => (b.length == 0) = false ∧ a.length + 2 ≤ sizeLine ∧ P (.lst ((Txt.split a b).map D.str)) C
  | _, _ => False
theorem am_split : AMt B X "str.split" (fun x xs H Q => ∃ a b, x = .str a ∧ xs = [.str b] ∧ (b.length == 0) = false ∧ a.length + 2 ≤ sizeLine ∧ rNewStrs (Txt.split a b) H Q) aSplit := ⟨fun pins s σ H x xs v us Q I r1 r2 h => mt_split pins s σ H x xs v us Q I r1 r2 h, by
  intro v d vs ds F C R H Q P hS r1 r2 h k
  unfold aSplit at h
  split at h
  · cases r1
    cases r2 with
    | cons r2 r3 =>
      cases r3
      cases r2
      rename_i a b
      refine ⟨a, b, rfl, rfl, h.1, h.2.1, fun p hp => ?_⟩
      have e := Ex.new (o := .lst ((Txt.split a b).map V.str)) (hS.freeF hp)
      exact k _ _ _ C _ e (hS.newF hp _) (.lst upd_same (.strs _)) h.2.2
  · exact h.elim⟩
/-! ### int(a text) -/
def aIntS : ASp := fun ds C P => match ds with | [.str a] => ∃ n, PySem.intText? a = some n ∧ a.length ≤ 640 ∧ P (.int n) C | _ => False
theorem ac_intS : ACa B X (.type "int") (fun xs H Q => ∃ a n, xs = [.str a] ∧ PySem.intText? a = some n ∧ a.length ≤ 640 ∧ Q (.int n) H) aIntS := ⟨call_int_str, by
  intro vs ds F C R H Q P hS r h k
  unfold aIntS at h
  split at h
  · cases r with
    | cons r1 r2 =>
      cases r2; cases r1
      obtain ⟨n, h1, h2, h3⟩ := h
      exact ⟨_, n, rfl, h1, h2, k _ _ F C H (Ex.refl F) hS (.int _) h3⟩
  · exact h.elim⟩
end
section
variable {C : AH} {P : D → AH → Prop}
theorem g_split {a b : Str} (h1 : (b.length == 0) = false) (h2 : a.length ≤ 1000000) (h : P (.lst ((Txt.split a b).map D.str)) C) : aSplit (.str a) [.str b] C P := ⟨h1, by simp only [sizeLine]; omega, h⟩
theorem g_intS {a : Str} {n : Int} (h1 : PySem.intText? a = some n) (h2 : a.length ≤ 640) (h : P (.int n) C) : aIntS [.str a] C P := ⟨n, h1, h2, h⟩
theorem g_extT {p : Addr} {us ws : List D} (h1 : C p = some (.lst us)) (h2 : us.length + ws.length ≤ 16000000) (h : P .non (put C p (.lst (us ++ ws)))) : aExtT (.ce p) [.tup ws] C P := by
  show (match C p with | some (.lst us) => us.length + ws.length ≤ 16000000 ∧ P .non (put C p (.lst (us ++ ws))) | _ => False)
  rw [h1]
  exact ⟨h2, h⟩
/-! ### join and split by one sign -/
def freeOf (c : Nat) (x : Str) : Prop := c ∉ x.cps.toList
theorem joinOne : ∀ (c : Nat) (ys : List Str), (Str.join ⟨#[c]⟩ ys).cps.toList = (match ys with | [] => [] | y :: r => y.cps.toList ++ (r.map fun z => c :: z.cps.toList).flatten)
  | _, [] => rfl
  | _, [y] => by
    show y.cps.toList = y.cps.toList ++ []
    rw [List.append_nil]
  | c, y :: z :: r => by
    have ih := joinOne c (z :: r)
    show (y ++ ⟨#[c]⟩ ++ Str.join ⟨#[c]⟩ (z :: r)).cps.toList = _
    have z1 : ∀ a b : Str, (a ++ b).cps.toList = a.cps.toList ++ b.cps.toList := fun a b => TL.tl_append a b
    rw [z1, z1, ih]
    simp
theorem join_inj (c : Nat) : ∀ (xs ys : List Str), xs ≠ [] → ys ≠ [] → (∀ x ∈ xs, freeOf c x) → (∀ y ∈ ys, freeOf c y) → Str.join ⟨#[c]⟩ xs = Str.join ⟨#[c]⟩ ys → xs = ys := by
  have cut : ∀ (a b : List Nat) (u v : List (List Nat)), c ∉ a → c ∉ b → a ++ (u.map fun z => c :: z).flatten = b ++ (v.map fun z => c :: z).flatten → a = b ∧ (u.map fun z => c :: z).flatten = (v.map fun z => c :: z).flatten := by
    intro a
    induction a with
    | nil =>
      intro b u v ha hb e
      cases b with
      | nil => exact ⟨rfl, e⟩
      | cons y b =>
        cases u with
        | nil => simp at e
        | cons z u =>
          simp at e
          exact absurd (by rw [e.1]; exact List.mem_cons_self) hb
    | cons x a ih =>
      intro b u v ha hb e
      cases b with
      | nil =>
        cases v with
        | nil => simp at e
        | cons z v =>
          simp at e
          exact absurd (by rw [e.1]; exact List.mem_cons_self) ha
      | cons y b =>
        rw [List.cons_append, List.cons_append] at e
        obtain ⟨e1, e2⟩ := List.cons.inj e
        obtain ⟨h1, h2⟩ := ih b u v (fun h => ha (List.mem_cons_of_mem _ h)) (fun h => hb (List.mem_cons_of_mem _ h)) e2
        exact ⟨by rw [e1, h1], h2⟩
  have eqS : ∀ {a b : Str}, a.cps.toList = b.cps.toList → a = b := fun {a b} h => by
    cases a; cases b
    exact congrArg Str.mk (Array.toList_inj.mp h)
  have tails : ∀ (u v : List Str), (∀ x ∈ u, freeOf c x) → (∀ x ∈ v, freeOf c x) → (u.map fun z => c :: z.cps.toList).flatten = (v.map fun z => c :: z.cps.toList).flatten → u = v := by
    intro u
    induction u with
    | nil =>
      intro v _ _ e
      cases v with
      | nil => rfl
      | cons y v => simp at e
    | cons x u ih =>
      intro v hu hv e
      cases v with
      | nil => simp at e
      | cons y v =>
        rw [List.map_cons, List.flatten_cons, List.map_cons, List.flatten_cons, List.cons_append, List.cons_append] at e
        have e := (List.cons.inj e).2
        have := cut x.cps.toList y.cps.toList (u.map fun z => z.cps.toList) (v.map fun z => z.cps.toList) (hu x List.mem_cons_self) (hv y List.mem_cons_self) (by rw [List.map_map, List.map_map]; exact e)
        rw [List.map_map, List.map_map] at this
        rw [eqS this.1, ih v (fun z h => hu z (List.mem_cons_of_mem _ h)) (fun z h => hv z (List.mem_cons_of_mem _ h)) this.2]
  intro xs ys hx hy fx fy e
  cases xs with
  | nil => exact absurd rfl hx
  | cons x xs =>
    cases ys with
    | nil => exact absurd rfl hy
    | cons y ys =>
      have e : (Str.join ⟨#[c]⟩ (x :: xs)).cps.toList = (Str.join ⟨#[c]⟩ (y :: ys)).cps.toList := congrArg (fun z : Str => z.cps.toList) e
      rw [joinOne, joinOne] at e
      have := cut x.cps.toList y.cps.toList (xs.map fun z => z.cps.toList) (ys.map fun z => z.cps.toList) (fx x List.mem_cons_self) (fy y List.mem_cons_self) (by rw [List.map_map, List.map_map]; exact e)
      rw [List.map_map, List.map_map] at this
      rw [eqS this.1, tails xs ys (fun z h => fx z (List.mem_cons_of_mem _ h)) (fun z h => fy z (List.mem_cons_of_mem _ h)) this.2]
theorem split_ne_nil (x : Str) (c : Nat) : Txt.split x ⟨#[c]⟩ ≠ [] := by
  intro h
  have := StrLaws.join_split x ⟨#[c]⟩
  rw [h] at this
  unfold Txt.split at h
  split at h
  · cases h
  · split at h
    · cases h
    · rw [StrLaws.partsBetween_eq] at h
      revert h
      cases Builtin.Str.occurrences x ⟨#[c]⟩ 0 x.length (x.length + 1) <;> intro h <;> cases h
theorem split_join {c : Nat} {ys : List Str} (hy : ys ≠ []) (h : ∀ y ∈ ys, freeOf c y) : Txt.split (Str.join ⟨#[c]⟩ ys) ⟨#[c]⟩ = ys :=
  join_inj c _ _ (split_ne_nil _ _) hy (fun x hx => StrLaws.split_free _ c x hx) h (StrLaws.join_split _ _)
end
end AL

namespace AL
open PySem PySem.Spec PyProof.Rows L2
variable {B : Bs}
/-! ### == of trees in which an empty dict stands -/
/-- flat things, truths and numbers in any mix -/
def eqF : D → D → Option Bool
  | .bl i, .int j => some ((if i then 1 else 0) == j)
  | .int i, .bl j => some (i == (if j then 1 else 0))
  | d, e => eqS d e
def isF : D → Bool
  | .non | .bl _ | .int _ | .str _ => true
  | _ => false
inductive EqD : Nat → D → D → Bool → Prop
  | flat {n : Nat} {d e : D} {b : Bool} : eqF d e = some b → EqD n d e b
  | lsts {n : Nat} {us ws : List D} {e : Nat → Bool} : us.length = ws.length → (∀ j (h1 : j < us.length) (h2 : j < ws.length), EqD n us[j] ws[j] (e j)) → EqD (n + 1) (.lst us) (.lst ws) ((List.range us.length).all e)
  | lstsN {n : Nat} {us ws : List D} : us.length ≠ ws.length → EqD (n + 1) (.lst us) (.lst ws) false
  | tups {n : Nat} {us ws : List D} {e : Nat → Bool} : (∀ j (h1 : j < us.length) (h2 : j < ws.length), EqD n us[j] ws[j] (e j)) → EqD (n + 1) (.tup us) (.tup ws) ((List.range (min us.length ws.length)).all e && us.length == ws.length)
  | lstF {n : Nat} {us : List D} {d : D} : isF d = true → EqD (n + 1) (.lst us) d false
  | tupF {n : Nat} {us : List D} {d : D} : isF d = true → EqD (n + 1) (.tup us) d false
  | fLst {n : Nat} {us : List D} {d : D} : isF d = true → EqD (n + 1) d (.lst us) false
  | fTup {n : Nat} {us : List D} {d : D} : isF d = true → EqD (n + 1) d (.tup us) false
  | lstTup {n : Nat} {us ws : List D} : EqD (n + 1) (.lst us) (.tup ws) false
  | tupLst {n : Nat} {us ws : List D} : EqD (n + 1) (.tup us) (.lst ws) false
  | dk0 {n : Nat} : EqD (n + 1) (.dk []) (.dk []) true
  | dkBl {n : Nat} {b : Bool} : EqD (n + 1) (.dk []) (.bl b) false
section
variable {A : Around} {s : Shared}
/-- an empty dict, by any program's look -/
def Dic0 (h : Heap) (a : Addr) : Prop := (a == sysModules) = false ∧ ∀ (prog : Program) (w : World), h.DictOf (mixKind prog w) a []
theorem dic0_of {P : Program} {w : World} {H : Hp} {h : Heap} {a : Addr} (ok : ObjOk P w H h a (.dK [])) : Dic0 h a := by
  obtain ⟨_, ys, va, ra, o, es, ep, ho, hx, hd, hk, hp, hn⟩ := ok
  unfold KV at ra
  cases ra
  have e0 : es.toList.length = 0 := hp.length
  have e1 : es = #[] := by
    apply Array.toList_inj.mp
    exact List.length_eq_zero_iff.mp e0
  subst e1
  refine ⟨ys, fun prog w' => ⟨o, #[], ep, ho, hx, hd, fun e he => absurd he (by simp), .nil, List.nodup_nil⟩⟩
theorem rc_dic {a b : Addr} (ha : Dic0 s.heap a) (hb : Dic0 s.heap b) (hu : A.units < cLine) : SeqAt.RcAt A s (.ref a) (.ref b) true := fun prog w E Q q =>
  PySem.W.rcP_dicts (knd := mixKind prog w) (r := true) ha.1 hb.1 (ha.2 prog w) (hb.2 prog w) hu (fun _ => .nil) E Q q
theorem eq_dic {a b : Addr} (ha : Dic0 s.heap a) (hb : Dic0 s.heap b) (hu : A.units < cLine) : SeqAt.EqAt A s (.ref a) (.ref b) true := by
  by_cases e : a = b
  · subst e; exact SeqAt.EqAt.same _
  · exact SeqAt.EqAt.of_refs e (rc_dic ha hb hu)
open AutoSeq1 (wpAny_loadPart') in
theorem int_declines_dic (c : Bool) (a : Addr) (cl : Value) (dd : Option Addr) (es : Array DictEntry) (ep : Nat) (sl : Array (Option Value)) : Meets (Builtin.«int.__eq__» ⟨[.bool c, .ref a], []⟩) (fun _ R s => s.heap.get? a = some { cls := cl, dict := dd, data := .dict es ep, slots := sl } ∧ R (.ok (.ret .notImplemented)) s) :=
  .of_wp fun prog w A R s h => by
    obtain ⟨hp, g, d, tk, os⟩ := s
    obtain ⟨hl, h⟩ := h
    wp_walk using wpAny_loadPart' hl, wpAny_load hl
    exact ⟨_, rfl, h⟩
open AutoSeq1 (wpAny_loadPart') in
theorem dict_declines_bool (c : Bool) (a : Addr) : Meets (Builtin.«dict.__eq__» ⟨[.ref a, .bool c], []⟩) (fun _ R s => s.TypeIs (.ref a) "dict" ∧ R (.ok (.ret .notImplemented)) s) :=
  .of_wp fun prog w A R s h => by
    obtain ⟨ht, h⟩ := h
    have f1 := F.sub_bool_dict
    show wpAny _ _ (Builtin.Dict.dictSlotArgs "__eq__" ⟨[.ref a, .bool c], []⟩ >>= _) _ _ s
    refine wpAny_bind ?_
    unfold Builtin.Dict.dictSlotArgs
    refine wpAny_bind (wpAny_notOrdered_dict ht ?_)
    show wpAny _ _ (pure (Value.ref a, Value.bool c)) _ _ s
    refine wpAny_pure ?_
    refine wpAny_bind (wpAny_isInstance (v := .bool c) (T := "bool") rfl F.sub_bool_dict ?_)
    simp only [Bool.not_false, if_true]
    refine wpAny_bind (wpAny_rule ?_)
    exact wpAny_bind (wpAny_pure (wpAny_pure ⟨_, rfl, h⟩))
theorem dic_bool {a : Addr} (b : Bool) (ha : Dic0 s.heap a) (hu : A.units < cLine) : SeqAt.EqAt A s (.ref a) (.bool b) false := fun prog w E Q h => by
  obtain ⟨o, es, ep, ho, hx, hd, _⟩ := ha.2 prog w
  have ht : s.TypeIs (.ref a) "dict" := (ha.2 prog w).typeIs
  obtain ⟨cl, dd, data, sl⟩ := o
  simp only at hd
  subst hd
  unfold eqBool
  refine wpAny_holding ?_
  refine wpAny_ite_split (fun hab => absurd (eq_of_beq hab) nofun) (fun _ => ?_)
  refine wpAny_bind ?_
  exact SeqAt.rc_eq_decline_or (k := false) ht rfl (by decide) F.sub_bool_dict F.slot_dict_eq F.slot_bool_eq_refl
    (fun _ hq => call_meets F.slot_dict_eq ht F.entry_dict_eq (F.args_dict_eq_2 _ _) (dict_declines_bool b a) ⟨ht, hq⟩)
    (fun _ hq => call_meets F.slot_bool_eq_refl rfl F.entry_int_eq (F.args_int_eq_2 _ _) (int_declines_dic b a cl dd es ep sl) ⟨ho, hq⟩)
    (fun _ hq => wpAny_of_eq (rfl : isSame (.ref a) (.bool b) = pure false) hq) (.inr hu) (wpAny_truthy_bool h)
end
section
variable {X : Cx} {K : PySem.W.Frag}
theorem dec_beq {α : Type} [DecidableEq α] [BEq α] [LawfulBEq α] (a b : α) : decide (a = b) = (a == b) := by
  rw [Bool.eq_iff_iff]; simp
theorem rv_non {u : Value} (h : L2.RelV .non u) : u = .none := h
theorem rv_bl {b : Bool} {u : Value} (h : L2.RelV (.bl b) u) : u = .bool b := h
theorem rv_int {i : Int} {u : Value} (h : L2.RelV (.int i) u) : ∃ t, u = .int i t := h
theorem rv_str {i : Str} {u : Value} (h : L2.RelV (.str i) u) : ∃ t, u = .str i t := h
theorem eqF_at {A : Around} {s : Shared} {F : Hp} {v w : V} {x y : Value} {d e : D} {b : Bool} (r1 : Rep K F v d) (r2 : Rep K F w e) (rx : RelV v x) (ry : RelV w y) (h : eqF d e = some b) : SeqAt.EqAt A s x y b := by
  unfold eqF at h
  split at h
  · cases r1; cases r2; cases h; cases rx
    obtain ⟨t, rfl⟩ := ry
    exact SeqAt.EqAt.bool_int _ _ _
  · cases r1; cases r2; cases h; cases ry
    obtain ⟨t, rfl⟩ := rx
    exact SeqAt.EqAt.int_bool _ _ _
  · unfold eqS at h
    split at h
    · cases r1; cases r2; cases h; obtain rfl := rv_non rx; obtain rfl := rv_non ry; exact SeqAt.EqAt.same _
    · cases r1; cases r2; cases h; obtain rfl := rv_non rx; obtain ⟨t2, rfl⟩ := rv_int ry; exact SeqAt.EqAt.none_int _ _
    · cases r1; cases r2; cases h; obtain ⟨t, rfl⟩ := rv_int rx; obtain rfl := rv_non ry; exact SeqAt.EqAt.int_none _ _
    · cases r1; cases r2; cases h; obtain rfl := rv_non rx; obtain rfl := rv_bl ry; exact SeqAt.EqAt.none_bool _
    · cases r1; cases r2; cases h; obtain rfl := rv_bl rx; obtain rfl := rv_non ry; exact SeqAt.EqAt.bool_none _
    · cases r1; cases r2; cases h; obtain rfl := rv_non rx; obtain ⟨t2, rfl⟩ := rv_str ry; exact SeqAt.EqAt.none_str _ _
    · cases r1; cases r2; cases h; obtain ⟨t, rfl⟩ := rv_str rx; obtain rfl := rv_non ry; exact SeqAt.EqAt.str_none _ _
    · cases r1; cases r2; cases h; obtain ⟨t, rfl⟩ := rv_int rx; obtain ⟨t2, rfl⟩ := rv_int ry; rw [dec_beq]; exact SeqAt.EqAt.int_int _ _ _ _
    · cases r1; cases r2; cases h; obtain rfl := rv_bl rx; obtain rfl := rv_bl ry; rw [dec_beq]; exact SeqAt.EqAt.bool_bool _ _
    · cases r1; cases r2; cases h; obtain ⟨t, rfl⟩ := rv_str rx; obtain ⟨t2, rfl⟩ := rv_str ry; rw [dec_beq]; exact SeqAt.EqAt.str_str _ _ _ _
    · cases r1; cases r2; cases h; obtain ⟨t, rfl⟩ := rv_int rx; obtain ⟨t2, rfl⟩ := rv_str ry; exact SeqAt.EqAt.int_str _ _ _ _
    · cases r1; cases r2; cases h; obtain ⟨t, rfl⟩ := rv_str rx; obtain ⟨t2, rfl⟩ := rv_int ry; exact SeqAt.EqAt.str_int _ _ _ _
    · cases r1; cases r2; cases h; obtain rfl := rv_bl rx; obtain ⟨t2, rfl⟩ := rv_str ry; exact SeqAt.EqAt.bool_str _ _ _
    · cases r1; cases r2; cases h; obtain ⟨t, rfl⟩ := rv_str rx; obtain rfl := rv_bl ry; exact SeqAt.EqAt.str_bool _ _ _
    · cases h
theorem vals_at {vs : List V} {us : List Value} (r : L2.Vals vs us) : ∀ {j : Nat} {v : V}, vs[j]? = some v → ∃ u, us[j]? = some u ∧ L2.RelV v u := by
  induction r with
  | nil => intro j v e; simp at e
  | cons h t ih =>
    intro j v e
    cases j with
    | zero => simp at e; subst e; exact ⟨_, rfl, h⟩
    | succ j => simpa using ih (by simpa using e)
theorem items_at {A : Around} {s : Shared} {F : Hp} {us ws : List D} {vs ys : List V} {xs zs : List Value} {e : Nat → Bool} (r1 : RepL K F vs us) (r2 : RepL K F ys ws) (q1 : L2.Vals vs xs) (q2 : L2.Vals ys zs)
    (h : ∀ j (h1 : j < us.length) (h2 : j < ws.length) (v w : V) (x y : Value), Rep K F v us[j] → Rep K F w ws[j] → L2.RelV v x → L2.RelV w y → SeqAt.EqAt A s x y (e j)) :
    ∀ j (h1 : j < xs.toArray.size) (h2 : j < zs.toArray.size), SeqAt.EqAt A s xs.toArray[j] zs.toArray[j] (e j) := by
  intro j h1 h2
  have l1 : j < us.length := by rw [← r1.length, q1.length]; simpa using h1
  have l2 : j < ws.length := by rw [← r2.length, q2.length]; simpa using h2
  obtain ⟨v, e1, g1⟩ := r1.getD (List.getElem?_eq_getElem l1)
  obtain ⟨w, e2, g2⟩ := r2.getD (List.getElem?_eq_getElem l2)
  obtain ⟨x, f1, k1⟩ := vals_at q1 e1
  obtain ⟨y, f2, k2⟩ := vals_at q2 e2
  have := h j l1 l2 v w x y g1 g2 k1 k2
  rw [List.getElem?_eq_some_iff] at f1 f2
  obtain ⟨_, f1⟩ := f1
  obtain ⟨_, f2⟩ := f2
  simpa [f1, f2] using this
theorem flat_at {F : Hp} {v : V} {d : D} {x : Value} (r : Rep K F v d) (rx : L2.RelV v x) (h : isF d = true) : x = .none ∨ (∃ b, x = .bool b) ∨ (∃ i t, x = .int i t) ∨ ∃ z t, x = .str z t := by
  cases r <;> first | (cases h; done) | skip
  · exact .inl rx
  · exact .inr (.inl ⟨_, rx⟩)
  · obtain ⟨t, e⟩ := rv_int rx; exact .inr (.inr (.inl ⟨_, t, e⟩))
  · obtain ⟨t, e⟩ := rv_str rx; exact .inr (.inr (.inr ⟨_, t, e⟩))
variable {pins : List (Addr × Obj)} {σ : L2.St} {H : Hp} {s : Shared}
theorem tup_is (I : Inv X pins σ H s) {F : Hp} (e : Ex F H) {a : Addr} {xs : List V} (h : F a = some (.tup xs)) : ∃ us, L2.Vals xs us ∧ s.heap.IsTuple a us.toArray := by
  obtain ⟨its, r, g, _⟩ := I.tuple (SqT.of (K := X.K) (e _ _ h))
  exact ⟨its, r, g⟩
theorem lst_is (I : Inv X pins σ H s) {F : Hp} (e : Ex F H) {a : Addr} {xs : List V} (h : F a = some (.lst xs)) : ∃ us, L2.Vals xs us ∧ s.heap.IsList a us.toArray := by
  obtain ⟨its, r, g, _⟩ := I.list (SqL.of (e _ _ h))
  exact ⟨its, r, g.isList⟩
theorem eqD_same {K : PySem.W.Frag} {F : Hp} {n : Nat} {d e : D} {b : Bool} (t : EqD n d e b) : ∀ (v : V), Rep K F v d → Rep K F v e → b = true := by
  induction t with
  | flat h =>
    intro v r1 r2
    unfold eqF at h
    split at h
    · cases r1; cases r2
    · cases r1; cases r2
    · unfold eqS at h
      split at h <;> cases r1 <;> cases r2 <;> cases h <;> first | rfl | exact decide_eq_true rfl
  | lsts hl _ ih =>
    intro v r1 r2
    cases r1 with
    | lst h1 g1 => cases r2 with
      | lst h2 g2 =>
        cases h1.symm.trans h2
        refine List.all_eq_true.mpr fun j hj => ?_
        have hj := List.mem_range.mp hj
        obtain ⟨v, e1, q1⟩ := g1.getD (List.getElem?_eq_getElem hj)
        obtain ⟨w, e2, q2⟩ := g2.getD (List.getElem?_eq_getElem (hl ▸ hj))
        cases e1.symm.trans e2
        exact ih j hj (hl ▸ hj) v q1 q2
  | lstsN hl =>
    intro v r1 r2
    cases r1 with
    | lst h1 g1 => cases r2 with
      | lst h2 g2 =>
        cases h1.symm.trans h2
        exact absurd (g1.length.symm.trans g2.length) hl
  | tups _ ih =>
    intro v r1 r2
    cases r1 with
    | tup h1 g1 => cases r2 with
      | tup h2 g2 =>
        cases h1.symm.trans h2
        have hl := g1.length.symm.trans g2.length
        rw [Bool.and_eq_true]
        refine ⟨List.all_eq_true.mpr fun j hj => ?_, by simp [hl]⟩
        have hj := List.mem_range.mp hj
        have k1 : j < _ := Nat.lt_of_lt_of_le hj (Nat.min_le_left _ _)
        have k2 : j < _ := Nat.lt_of_lt_of_le hj (Nat.min_le_right _ _)
        obtain ⟨v, e1, q1⟩ := g1.getD (List.getElem?_eq_getElem k1)
        obtain ⟨w, e2, q2⟩ := g2.getD (List.getElem?_eq_getElem k2)
        cases e1.symm.trans e2
        exact ih j k1 k2 v q1 q2
  | lstF h => intro v r1 r2; cases r1 <;> cases r2 <;> cases h
  | tupF h => intro v r1 r2; cases r1 <;> cases r2 <;> cases h
  | fLst h => intro v r1 r2; cases r1 <;> cases r2 <;> cases h
  | fTup h => intro v r1 r2; cases r1 <;> cases r2 <;> cases h
  | lstTup =>
    intro v r1 r2
    cases r1 with
    | lst h1 g1 => cases r2 with
      | tup h2 g2 => cases h1.symm.trans h2
  | tupLst =>
    intro v r1 r2
    cases r1 with
    | tup h1 g1 => cases r2 with
      | lst h2 g2 => cases h1.symm.trans h2
  | dk0 => intro v r1 r2; rfl
  | dkBl => intro v r1 r2; cases r1 <;> cases r2
/-- the items of two lists or tuples, told apart -/
def Items (A : Around) (s : Shared) (l1 l2 : Nat) (e : Nat → Bool) (xs zs : Array Value) : Prop := xs.size = l1 ∧ zs.size = l2 ∧ ∀ j (h1 : j < xs.size) (h2 : j < zs.size), SeqAt.EqAt A s xs[j] zs[j] (e j)
theorem both_lst (I : Inv X pins σ H s) {F : Hp} (eF : Ex F H) {us ws : List D} {A : Around} {e : Nat → Bool} {a b : Addr} {vs ys : List V} (h1 : F a = some (.lst vs)) (h2 : F b = some (.lst ys)) (g1 : RepL X.K F vs us) (g2 : RepL X.K F ys ws)
    (ih : ∀ j (h1 : j < us.length) (h2 : j < ws.length) (v w : V) (x y : Value), Rep X.K F v us[j] → Rep X.K F w ws[j] → L2.RelV v x → L2.RelV w y → SeqAt.EqAt A s x y (e j)) :
    ∃ xs zs, s.heap.IsList a xs ∧ s.heap.IsList b zs ∧ Items A s us.length ws.length e xs zs := by
  obtain ⟨xs, q1, p1⟩ := lst_is I eF h1
  obtain ⟨ys, q2, p2⟩ := lst_is I eF h2
  exact ⟨_, _, p1, p2, by rw [List.size_toArray, ← q1.length, g1.length], by rw [List.size_toArray, ← q2.length, g2.length], items_at g1 g2 q1 q2 ih⟩
theorem both_tup (I : Inv X pins σ H s) {F : Hp} (eF : Ex F H) {us ws : List D} {A : Around} {e : Nat → Bool} {a b : Addr} {vs ys : List V} (h1 : F a = some (.tup vs)) (h2 : F b = some (.tup ys)) (g1 : RepL X.K F vs us) (g2 : RepL X.K F ys ws)
    (ih : ∀ j (h1 : j < us.length) (h2 : j < ws.length) (v w : V) (x y : Value), Rep X.K F v us[j] → Rep X.K F w ws[j] → L2.RelV v x → L2.RelV w y → SeqAt.EqAt A s x y (e j)) :
    ∃ xs zs, s.heap.IsTuple a xs ∧ s.heap.IsTuple b zs ∧ Items A s us.length ws.length e xs zs := by
  obtain ⟨xs, q1, p1⟩ := tup_is I eF h1
  obtain ⟨ys, q2, p2⟩ := tup_is I eF h2
  exact ⟨_, _, p1, p2, by rw [List.size_toArray, ← q1.length, g1.length], by rw [List.size_toArray, ← q2.length, g2.length], items_at g1 g2 q1 q2 ih⟩
theorem one_lst (I : Inv X pins σ H s) {F : Hp} (eF : Ex F H) {a : Addr} {vs : List V} (h1 : F a = some (.lst vs)) : ∃ xs, s.heap.IsList a xs := by
  obtain ⟨xs, q1, p1⟩ := lst_is I eF h1
  exact ⟨_, p1⟩
theorem one_tup (I : Inv X pins σ H s) {F : Hp} (eF : Ex F H) {a : Addr} {vs : List V} (h1 : F a = some (.tup vs)) : ∃ xs, s.heap.IsTuple a xs := by
  obtain ⟨xs, q1, p1⟩ := tup_is I eF h1
  exact ⟨_, p1⟩
/-- what a comparision of trees tells, an item's -/
theorem eqD_at (I : Inv X pins σ H s) {F : Hp} (eF : Ex F H) {n : Nat} {d e : D} {b : Bool} (t : EqD n d e b) : ∀ (A : Around), A.units + n < cLine → ∀ (v w : V) (x y : Value), Rep X.K F v d → Rep X.K F w e → L2.RelV v x → L2.RelV w y → SeqAt.EqAt A s x y b := by
  induction t with
  | flat h => intro A hu v w x y r1 r2 rx ry; exact eqF_at r1 r2 rx ry h
  | lsts hl hh ih =>
    intro A hu v w x y r1 r2 rx ry
    by_cases ne : v = w
    · subst ne
      rw [eqD_same (.lsts hl hh) v r1 r2]
      cases r1
      cases rx; cases ry
      exact SeqAt.EqAt.same _
    · cases r1 with
      | lst h1 g1 => cases r2 with
        | lst h2 g2 =>
          cases rx; cases ry
          obtain ⟨xs, zs, p1, p2, l1, l2, q⟩ := both_lst (A := A.in1) I eF h1 h2 g1 g2 fun j h1 h2 v w x y a1 a2 a3 a4 => ih j h1 h2 A.in1 (by show A.units + 1 + _ < cLine; omega) v w x y a1 a2 a3 a4
          refine SeqAt.EqAt.of_refs (fun z => ne (by rw [z])) ?_
          have := SeqAt.RcAt.lists (A := A) p1 p2 (by rw [l1, l2, hl]) (by omega) q
          rw [l1] at this
          exact this
  | lstsN hl =>
    intro A hu v w x y r1 r2 rx ry
    cases r1 with
    | lst h1 g1 => cases r2 with
      | lst h2 g2 =>
        cases rx; cases ry
        obtain ⟨xs, q1, p1⟩ := lst_is I eF h1
        obtain ⟨ys, q2, p2⟩ := lst_is I eF h2
        refine SeqAt.EqAt.of_refs (fun z => ?_) ?_
        · subst z
          cases h1.symm.trans h2
          exact hl (g1.length.symm.trans g2.length)
        · refine SeqAt.RcAt.lists_lengths p1 p2 ?_ (by omega)
          rw [List.size_toArray, List.size_toArray, ← q1.length, ← q2.length, g1.length, g2.length]
          simpa using hl
  | tups hh ih =>
    intro A hu v w x y r1 r2 rx ry
    by_cases ne : v = w
    · subst ne
      rw [eqD_same (.tups hh) v r1 r2]
      cases r1
      cases rx; cases ry
      exact SeqAt.EqAt.same _
    · cases r1 with
      | tup h1 g1 => cases r2 with
        | tup h2 g2 =>
          cases rx; cases ry
          obtain ⟨xs, zs, p1, p2, l1, l2, q⟩ := both_tup (A := A.in1) I eF h1 h2 g1 g2 fun j h1 h2 v w x y a1 a2 a3 a4 => ih j h1 h2 A.in1 (by show A.units + 1 + _ < cLine; omega) v w x y a1 a2 a3 a4
          refine SeqAt.EqAt.of_refs (fun z => ne (by rw [z])) ?_
          have := SeqAt.RcAt.tuples (A := A) p1 p2 (by omega) q
          rw [l1, l2] at this
          exact this
  | lstF h =>
    intro A hu v w x y r1 r2 rx ry
    cases r1 with
    | lst h1 g1 =>
      cases rx
      obtain ⟨xs, p1⟩ := one_lst I eF h1
      rcases flat_at r2 ry h with rfl | ⟨b, rfl⟩ | ⟨i, t, rfl⟩ | ⟨z, t, rfl⟩
      · exact SeqAt.EqAt.list_none p1 (by omega)
      · exact SeqAt.EqAt.list_bool b p1 (by omega)
      · exact SeqAt.EqAt.list_int i t p1 (by omega)
      · exact SeqAt.EqAt.list_str z t p1 (by omega)
  | tupF h =>
    intro A hu v w x y r1 r2 rx ry
    cases r1 with
    | tup h1 g1 =>
      cases rx
      obtain ⟨xs, p1⟩ := one_tup I eF h1
      rcases flat_at r2 ry h with rfl | ⟨b, rfl⟩ | ⟨i, t, rfl⟩ | ⟨z, t, rfl⟩
      · exact SeqAt.EqAt.tuple_none p1 (by omega)
      · exact SeqAt.EqAt.tuple_bool b p1 (by omega)
      · exact SeqAt.EqAt.tuple_int i t p1 (by omega)
      · exact SeqAt.EqAt.tuple_str z t p1 (by omega)
  | fLst h =>
    intro A hu v w x y r1 r2 rx ry
    cases r2 with
    | lst h1 g1 =>
      cases ry
      obtain ⟨xs, p1⟩ := one_lst I eF h1
      rcases flat_at r1 rx h with rfl | ⟨b, rfl⟩ | ⟨i, t, rfl⟩ | ⟨z, t, rfl⟩
      · exact SeqAt.EqAt.none_list p1 (by omega)
      · exact SeqAt.EqAt.bool_list b p1 (by omega)
      · exact SeqAt.EqAt.int_list i t p1 (by omega)
      · exact SeqAt.EqAt.str_list z t p1 (by omega)
  | fTup h =>
    intro A hu v w x y r1 r2 rx ry
    cases r2 with
    | tup h1 g1 =>
      cases ry
      obtain ⟨xs, p1⟩ := one_tup I eF h1
      rcases flat_at r1 rx h with rfl | ⟨b, rfl⟩ | ⟨i, t, rfl⟩ | ⟨z, t, rfl⟩
      · exact SeqAt.EqAt.none_tuple p1 (by omega)
      · exact SeqAt.EqAt.bool_tuple b p1 (by omega)
      · exact SeqAt.EqAt.int_tuple i t p1 (by omega)
      · exact SeqAt.EqAt.str_tuple z t p1 (by omega)
  | lstTup =>
    intro A hu v w x y r1 r2 rx ry
    cases r1 with
    | lst h1 g1 => cases r2 with
      | tup h2 g2 =>
        cases rx; cases ry
        obtain ⟨xs, p1⟩ := one_lst I eF h1
        obtain ⟨ys, p2⟩ := one_tup I eF h2
        exact SeqAt.EqAt.list_tuple p1 p2 (by omega)
  | tupLst =>
    intro A hu v w x y r1 r2 rx ry
    cases r1 with
    | tup h1 g1 => cases r2 with
      | lst h2 g2 =>
        cases rx; cases ry
        obtain ⟨xs, p1⟩ := one_tup I eF h1
        obtain ⟨ys, p2⟩ := one_lst I eF h2
        exact SeqAt.EqAt.tuple_list p1 p2 (by omega)
  | dk0 =>
    intro A hu v w x y r1 r2 rx ry
    cases r1 with
    | dk h1 g1 => cases r2 with
      | dk h2 g2 =>
        cases g1; cases g2
        cases rx; cases ry
        exact eq_dic (dic0_of (I.hok _ _ (eF _ _ h1))) (dic0_of (I.hok _ _ (eF _ _ h2))) (by omega)
  | dkBl =>
    intro A hu v w x y r1 r2 rx ry
    cases r1 with
    | dk h1 g1 =>
      cases r2
      cases g1
      cases rx; cases ry
      exact dic_bool _ (dic0_of (I.hok _ _ (eF _ _ h1))) (by omega)
/-- as a whole comparision: of lists, tuples, dicts -/
inductive Whole : D → D → Bool → Prop
  | lsts {us ws : List D} {e : Nat → Bool} : us.length = ws.length → (∀ j (h1 : j < us.length) (h2 : j < ws.length), EqD 60 us[j] ws[j] (e j)) → Whole (.lst us) (.lst ws) ((List.range us.length).all e)
  | lstsN {us ws : List D} : us.length ≠ ws.length → Whole (.lst us) (.lst ws) false
  | tups {us ws : List D} {e : Nat → Bool} : (∀ j (h1 : j < us.length) (h2 : j < ws.length), EqD 60 us[j] ws[j] (e j)) → Whole (.tup us) (.tup ws) ((List.range (min us.length ws.length)).all e && us.length == ws.length)
  | dk0 : Whole (.dk []) (.dk []) true
def rEqW (K : PySem.W.Frag) (neg : Bool) : R2 := fun x y H Q => ∃ F d e b, Ex F H ∧ Rep K F x d ∧ Rep K F y e ∧ Whole d e b ∧ Q (.bl (if neg then !b else b)) H
theorem op_eqW (hu : X.A.units + 64 < cLine) : OpR X (compareOp .Eq) (rEqW X.K false) := by
  intro pins s σ H x y v u Q I rx ry h
  obtain ⟨F, d, e, b, eF, r1, r2, t, q⟩ := h
  have fin : ∀ {k : Bool}, SeqAt.RcAt X.A s v u k → k = b → wpAny (model X.prog X.w) X.A (compareOp .Eq v u) (EP X pins σ Q) X.xe s := fun hk z => by
    subst z
    exact hk _ _ _ _ ⟨.bl _, H, I, rfl, q⟩
  cases t with
  | lsts hl hh =>
    cases r1 with
    | lst h1 g1 => cases r2 with
      | lst h2 g2 =>
        cases rx; cases ry
        obtain ⟨xs, zs, p1, p2, l1, l2, q⟩ := both_lst (A := X.A.in1) I eF h1 h2 g1 g2 fun j h1 h2 v w x y a1 a2 a3 a4 => eqD_at I eF (hh j h1 h2) X.A.in1 (by show X.A.units + 1 + _ < cLine; omega) v w x y a1 a2 a3 a4
        exact fin (SeqAt.RcAt.lists p1 p2 (by rw [l1, l2, hl]) (by omega) q) (by rw [l1])
  | lstsN hl =>
    cases r1 with
    | lst h1 g1 => cases r2 with
      | lst h2 g2 =>
        cases rx; cases ry
        obtain ⟨xs, q1, p1⟩ := lst_is I eF h1
        obtain ⟨ys, q2, p2⟩ := lst_is I eF h2
        refine fin (SeqAt.RcAt.lists_lengths p1 p2 ?_ (by omega)) rfl
        rw [List.size_toArray, List.size_toArray, ← q1.length, ← q2.length, g1.length, g2.length]
        simpa using hl
  | tups hh =>
    cases r1 with
    | tup h1 g1 => cases r2 with
      | tup h2 g2 =>
        cases rx; cases ry
        obtain ⟨xs, zs, p1, p2, l1, l2, q⟩ := both_tup (A := X.A.in1) I eF h1 h2 g1 g2 fun j h1 h2 v w x y a1 a2 a3 a4 => eqD_at I eF (hh j h1 h2) X.A.in1 (by show X.A.units + 1 + _ < cLine; omega) v w x y a1 a2 a3 a4
        exact fin (SeqAt.RcAt.tuples p1 p2 (by omega) q) (by rw [l1, l2])
  | dk0 =>
    cases r1 with
    | dk h1 g1 => cases r2 with
      | dk h2 g2 =>
        cases g1; cases g2
        cases rx; cases ry
        exact fin (rc_dic (dic0_of (I.hok _ _ (eF _ _ h1))) (dic0_of (I.hok _ _ (eF _ _ h2))) (by omega)) rfl
theorem op_neW (hu : X.A.units + 64 < cLine) : OpR X (compareOp .NotEq) (rEqW X.K true) := by
  intro pins s σ H x y v u Q I rx ry h
  obtain ⟨F, d, e, b, eF, r1, r2, t, q⟩ := h
  have fin : ∀ {k : Bool}, SeqAt.RcNeAt X.A s v u k → k = !b → wpAny (model X.prog X.w) X.A (compareOp .NotEq v u) (EP X pins σ Q) X.xe s := fun hk z => by
    subst z
    exact hk _ _ _ _ ⟨.bl _, H, I, rfl, q⟩
  cases t with
  | lsts hl hh =>
    cases r1 with
    | lst h1 g1 => cases r2 with
      | lst h2 g2 =>
        cases rx; cases ry
        obtain ⟨xs, zs, p1, p2, l1, l2, q⟩ := both_lst (A := X.A.in1) I eF h1 h2 g1 g2 fun j h1 h2 v w x y a1 a2 a3 a4 => eqD_at I eF (hh j h1 h2) X.A.in1 (by show X.A.units + 1 + _ < cLine; omega) v w x y a1 a2 a3 a4
        exact fin (SeqAt.RcNeAt.lists p1 p2 (by rw [l1, l2, hl]) (by omega) q) (by rw [l1])
  | lstsN hl =>
    cases r1 with
    | lst h1 g1 => cases r2 with
      | lst h2 g2 =>
        cases rx; cases ry
        obtain ⟨xs, q1, p1⟩ := lst_is I eF h1
        obtain ⟨ys, q2, p2⟩ := lst_is I eF h2
        refine fin (SeqAt.RcNeAt.lists_lengths p1 p2 ?_ (by omega)) rfl
        rw [List.size_toArray, List.size_toArray, ← q1.length, ← q2.length, g1.length, g2.length]
        simpa using hl
  | tups hh =>
    cases r1 with
    | tup h1 g1 => cases r2 with
      | tup h2 g2 =>
        cases rx; cases ry
        obtain ⟨xs, zs, p1, p2, l1, l2, q⟩ := both_tup (A := X.A.in1) I eF h1 h2 g1 g2 fun j h1 h2 v w x y a1 a2 a3 a4 => eqD_at I eF (hh j h1 h2) X.A.in1 (by show X.A.units + 1 + _ < cLine; omega) v w x y a1 a2 a3 a4
        exact fin (SeqAt.RcNeAt.tuples p1 p2 (by omega) q) (by rw [l1, l2])
  | dk0 =>
    cases r1 with
    | dk h1 g1 => cases r2 with
      | dk h2 g2 =>
        cases g1; cases g2
        exact op_ne_dictA (X := X) (by omega) pins s σ H _ _ v u Q I rx ry ⟨_, _, [], [], rfl, rfl, eF _ _ h1, eF _ _ h2, rfl, (fun p hp => by cases hp), q⟩
/-- == and !=, trees with empty dicts too -/
def aEqW (neg : Bool) : D → D → AH → (D → AH → Prop) → Prop := fun x y C P => aEqN neg x y C P ∨ ∃ b, Whole x y b ∧ P (.bl (if neg then !b else b)) C
theorem ao_eqW (hu : X.A.units + 64 < cLine) (hK : X.K = K := by rfl) : AOp B X (compareOp .Eq) (fun x y H Q => (rEq x y H Q ∨ rEqD K x y H Q) ∨ rEqW K false x y H Q) (aEqW false) := by
  subst hK
  refine ⟨(op_eq.or (op_eqD hu)).or (op_eqW hu), ?_⟩
  intro v w d e F C R H Q P hS r1 r2 h k
  rcases h with h | ⟨b, t, h3⟩
  · exact .inl ((sim_eq (B := B)) v w d e F C R H Q P hS r1 r2 h k)
  · exact .inr ⟨F, d, e, b, hS.ex, r1, r2, t, k _ _ F C H (Ex.refl F) hS (.bl _) h3⟩
theorem ao_neW (hu : X.A.units + 64 < cLine) (hK : X.K = K := by rfl) : AOp B X (compareOp .NotEq) (fun x y H Q => (rNe x y H Q ∨ rNeD K x y H Q) ∨ rEqW K true x y H Q) (aEqW true) := by
  subst hK
  refine ⟨(op_ne.or (op_neD hu)).or (op_neW hu), ?_⟩
  intro v w d e F C R H Q P hS r1 r2 h k
  rcases h with h | ⟨b, t, h3⟩
  · exact .inl ((sim_ne (B := B)) v w d e F C R H Q P hS r1 r2 h k)
  · exact .inr ⟨F, d, e, b, hS.ex, r1, r2, t, k _ _ F C H (Ex.refl F) hS (.bl _) h3⟩
end
end AL

namespace AL
open PySem PySem.Spec PyProof.Rows L2
variable {B : Bs}
/-! ### a name's cell, where it is one, is changed no more -/
def aFrzO (i : Nat) (a : AS') : AS' := fun E s C => match s[i]? with
  | some (some (.ce p)) => aFrz i a E s C
  | _ => a E s C
theorem sim_frzO {K : PySem.W.Frag} {t : TS} {a : AS'} (i : Nat) (h : SimS B K t a) : SimS B K t (aFrzO i a) := fun D' E σ s F C R H hE hs hS h0 => by
  unfold aFrzO at h0
  split at h0
  · exact sim_frz i h D' E σ s F C R H hE hs hS h0
  · exact h D' E σ s F C R H hE hs hS h0
theorem ass_frzO {X : Cx} {sts : List Stmt} {t : TS} {a : AS'} (i : Nat) (h : ASs B X sts t a) : ASs B X sts t (aFrzO i a) := ⟨h.ps, sim_frzO i h.sim⟩
section
variable {a : AS'} {s : ASt} {C : AH} {E : AEnds}
theorem g_frzOL {i : Nat} {p : Addr} {ds : List D} (h0 : s[i]? = some (some (.ce p))) (h1 : C p = some (.lst ds)) (h : a E (s.set i (some (.lst ds))) (del C p)) : aFrzO i a E s C := by
  unfold aFrzO
  rw [h0]
  exact g_frzL h0 h1 h
theorem g_frzON {i : Nat} {d : D} (h0 : s[i]? = some (some d)) (hd : ∀ p, d ≠ .ce p) (h : a E s C) : aFrzO i a E s C := by
  unfold aFrzO
  rw [h0]
  split
  · rename_i e
    injection e with e
    injection e with e
    exact absurd e (hd _)
  · exact h
end
end AL
namespace AL
open PySem PySem.Spec PyProof.Rows L2
variable {B : Bs}
/-! ### str of a text or a number -/
def aStrA : ASp := fun ds C P => match ds with
  | [.str a] => P (.str a) C
  | [.int i] => i.natAbs.log2 < 1920 ∧ P (.str (toString i)) C
  | _ => False
theorem ac_strA {X : Cx} : ACa B X (.type "str") (fun xs H Q => (∃ a, xs = [.str a] ∧ Q (.str a) H) ∨ ∃ i, xs = [.int i] ∧ i.natAbs.log2 < 1920 ∧ Q (.str (toString i)) H) aStrA := ⟨SkE.call_str_str.or call_str_int, by
  intro vs ds F C R H Q P hS r h k
  unfold aStrA at h
  split at h
  · cases r with
    | cons r1 r2 =>
      cases r2; cases r1
      exact .inl ⟨_, rfl, k _ _ F C H (Ex.refl F) hS (.str _) h⟩
  · cases r with
    | cons r1 r2 =>
      cases r2; cases r1
      exact .inr ⟨_, rfl, h.1, k _ _ F C H (Ex.refl F) hS (.str _) h.2⟩
  · exact h.elim⟩
end AL

local macro_rules | `(tactic| walk_at "ne") => `(tactic| first | with_reducible assumption | ((with_reducible refine Ne.symm ?_); (with_reducible assumption)))
local macro_rules | `(tactic| walk_at "look") => `(tactic| first
  | with_reducible assumption
  | with_reducible exact AL.put_same
  | ((with_reducible apply AL.put_other); (walk_at "ne"); (walk_at "look"))
  | ((with_reducible apply AL.del_other); (walk_at "ne"); (walk_at "look")))
local macro_rules | `(tactic| walk_at "mul") => `(tactic| first | exact Or.inr ⟨by omega, by omega⟩ | exact Or.inl ⟨by omega, by omega⟩)
local macro_rules | `(tactic| walk_at "go1") => `(tactic| first
  | with_reducible apply AL.g_seq
  | with_reducible apply AL.g_asg
  | with_reducible apply AL.g_op
  | with_reducible apply AL.g_un
  | ((with_reducible apply AL.g_var); exact rfl)
  | with_reducible apply AL.g_c
  | ((with_reducible apply AL.g_gname'); (simp only [AL.wipeA, List.foldl_cons, List.foldl_nil, List.set_cons_zero, List.set_cons_succ]; exact rfl))
  | with_reducible apply AL.g_call
  | with_reducible apply AL.g_cons
  | with_reducible apply AL.g_nil
  | with_reducible apply AL.g_addI
  | with_reducible apply AL.g_sub
  | ((with_reducible apply AL.g_mul); (walk_at "mul"))
  | ((with_reducible apply AL.g_mod); (omega))
  | ((with_reducible apply AL.g_div); (exact ⟨by omega, by omega⟩))
  | ((with_reducible apply AL.g_pow); (exact ⟨by decide, by decide, by decide⟩))
  | with_reducible apply AL.g_lt
  | with_reducible apply AL.g_le
  | with_reducible apply AL.g_gt
  | with_reducible apply AL.g_ge
  | with_reducible apply AL.g_eqII
  | with_reducible apply AL.g_neII
  | with_reducible apply AL.g_eqBB
  | with_reducible apply AL.g_neBB
  | with_reducible apply AL.g_eqTT
  | with_reducible apply AL.g_neTT
  | with_reducible apply AL.g_is
  | with_reducible apply AL.g_isnot
  | with_reducible apply AL.g_B
  | with_reducible apply AL.g_kB
  | with_reducible apply AL.g_tru
  | with_reducible apply AL.g_kTruB
  | with_reducible apply AL.g_and
  | with_reducible apply AL.g_or
  | with_reducible apply AL.g_not
  | with_reducible apply AL.g_andV
  | with_reducible apply AL.g_orV
  | with_reducible apply AL.g_notV
  | with_reducible apply AL.g_kNot
  | with_reducible apply AL.g_if
  | with_reducible apply AL.g_ixL0
  | with_reducible apply AL.g_ixL1
  | with_reducible apply AL.g_ixL2
  | with_reducible apply AL.g_ixT0
  | with_reducible apply AL.g_ixT1
  | with_reducible apply AL.g_ixT2
  | with_reducible apply AL.g_ixT3
  | ((with_reducible apply AL.g_ixC); (walk_at "look"))
  | with_reducible apply AL.g_lenL
  | with_reducible apply AL.g_lenT
  | with_reducible apply AL.g_lenR
  | ((with_reducible apply AL.g_lenC); (walk_at "look"))
  | with_reducible apply AL.g_abs
  | with_reducible apply AL.g_max2
  | with_reducible apply AL.g_min2
  | with_reducible apply AL.g_intI
  | with_reducible apply AL.g_intB
  | with_reducible apply AL.g_listL
  | with_reducible apply AL.g_listT
  | with_reducible apply AL.g_tupleL
  | with_reducible apply AL.g_tupleT
  | with_reducible apply AL.g_rev
  | with_reducible apply AL.g_ret
  | with_reducible apply AL.g_drop
  | with_reducible apply AL.g_next
  | with_reducible apply AL.g_retN
  | with_reducible apply AL.g_tup
  | with_reducible apply AL.g_lst
  | with_reducible apply AL.g_lstM
  | with_reducible apply AL.g_isi
  | with_reducible apply AL.g_kIsiI
  | with_reducible apply AL.g_kIsiB
  | with_reducible apply AL.g_kIsiN
  | with_reducible apply AL.g_kIsiS
  | with_reducible apply AL.g_kIsiL
  | with_reducible apply AL.g_kIsiT
  | with_reducible apply AL.g_kIsiK
  | with_reducible apply AL.g_meth
  | with_reducible apply AL.g_meth0
  | ((with_reducible apply AL.g_gsetV); exact rfl)
  | ((with_reducible apply AL.g_kSet); (walk_at "look"); exact rfl)
  | ((with_reducible apply AL.g_frzL); exact rfl; (walk_at "look"))
  | ((with_reducible apply AL.g_gtup); exact rfl)
  | with_reducible apply AL.g_gcons
  | with_reducible apply AL.g_gnil
  | with_reducible apply AL.g_yes
  | with_reducible apply AL.g_sl
  | with_reducible apply AL.g_noPart
  | with_reducible apply AL.g_part
  | with_reducible apply AL.g_kPart
  | ((with_reducible apply AL.g_pen0); exact rfl; (walk_at "look"))
  | ((with_reducible apply AL.g_pen1); exact rfl; (walk_at "look"))
  | ((with_reducible apply AL.g_pen2); exact rfl; (walk_at "look"))
  | with_reducible apply AL.g_putK
  | ((with_reducible apply AL.g_kPut1); exact rfl; (walk_at "look"))
  | ((with_reducible apply AL.g_kPut2); exact rfl; (walk_at "look"))
  | with_reducible apply AL.g_par
  | ((with_reducible apply AL.g_kPar); (simp only [List.set_cons_zero, List.set_cons_succ]; exact rfl))
  | with_reducible apply AL.g_neg
  | with_reducible apply AL.g_chain
  | with_reducible apply AL.g_lenSet
  | with_reducible apply AL.g_inTab
  | with_reducible apply AL.g_kInTab
  | with_reducible apply AL.g_kNotInTab
  | with_reducible apply AL.g_ixTab
  | with_reducible apply AL.g_eqNil
  | with_reducible apply AL.g_neNil
  | with_reducible apply AL.g_iteT
  | with_reducible apply AL.g_iteF
  | with_reducible apply AL.g_iteNT
  | with_reducible apply AL.g_iteNF
  | with_reducible apply AL.g_for
  | with_reducible apply AL.g_il
  | with_reducible apply AL.g_it
  | with_reducible apply AL.g_is'
  | with_reducible apply AL.g_ir1
  | with_reducible apply AL.g_ir2
  | with_reducible apply AL.g_ie
  | with_reducible apply AL.g_iz
  | with_reducible apply AL.g_kILl
  | with_reducible apply AL.g_kILr
  | with_reducible apply AL.g_kIT
  | with_reducible apply AL.g_kIS
  | with_reducible apply AL.g_kIE
  | with_reducible apply AL.g_kIZ
  | ((with_reducible apply AL.g_kIR1); (omega); (omega))
  | ((with_reducible apply AL.g_kIR2); (omega))
  | with_reducible apply AL.g_lc
  | with_reducible apply AL.g_lcM
  | ((with_reducible apply AL.g_body'); (simp only [List.map_cons, List.map_nil, List.length_cons, List.length_nil, List.cons_append, List.nil_append, List.reduceReplicate, Nat.reduceAdd, Nat.reduceSub]; exact rfl))
  | ((with_reducible apply AL.g_sz); (simp only [List.length_cons, List.length_nil, PySem.sizeLine]; try omega))
  | ((with_reducible apply AL.g_ty); first | exact rfl | exact AL.isTy_ce (by walk_at "look") rfl))
local macro_rules | `(tactic| walk_at "go") => `(tactic| repeat walk_at "go1")

namespace A_k56
open PySem AL
def tab_LENGTHS : List (Str × Int) := [("long", 3), ("least", 3), ("often", 3), ("apart", 1), ("without", 2), ("begins", 2), ("ends", 2), ("not", 2), ("both", 3), ("either", 3)]

def tab_PARTS : List (Str × Int) := [("not", 1), ("both", 2), ("either", 2)]

/- is_whole: slots 0:thing -/
def a_is_whole : AS' :=
  aRet (aAndV (aIsi "int" (aVar 0)) (aNotV (aIsi "bool" (aVar 0))))
def s_is_whole : ASp := aBody 1 a_is_whole

/- is_sign: slots 0:thing -/
def a_is_sign : AS' :=
  aRet (aAndV (aOp aEq (aCall aLen (aCons (aVar 0) (aNil))) (aC (.int 1))) (aAndV (aChain aLe aLe (aC (.int 33)) (aCall aOrd (aCons (aVar 0) (aNil))) (aC (.int 126))) (aOp aNe (aCall aOrd (aCons (aVar 0) (aNil))) (aC (.int 37)))))
def s_is_sign : ASp := aBody 1 a_is_sign

/- signs_of: slots 0:tongue -/
def a_signs_of : AS' :=
  aRet (aMeth "str" aJoin (aC (.str "")) (aCons (aVar 0) (aNil)))
def s_signs_of : ASp := aBody 1 a_signs_of

/- parts_of: slots 0:sentence -/
def a_parts_of : AS' :=
  aSeq (aIfS (aB (aOp aInL (aOp aIx (aVar 0) (aC (.int 0))) (aTup (aCons (aC (.str "not")) (aCons (aC (.str "both")) (aCons (aC (.str "either")) (aNil)))))))
  (aRet (aCall aListOf (aCons (aSl aCut (aVar 0) (aPart (aC (.int 1))) aNoPart) (aNil))))
  (aNext))
  (aRet (aLst (aNil)))
def s_parts_of : ASp := aBody 1 a_parts_of

/- show_sentence: slots 0:sentence 1:found 2:part; calls itself -/
def a_show_sentence (s_show_sentence : ASp) : AS' :=
  aSeq (aAsg (aOp aIx (aVar 0) (aC (.int 0))) (aGName 1))
  (aSeq (aFor (aIT (aSl aCut (aVar 0) (aPart (aC (.int 1))) aNoPart)) (aGName 2)
  (aIfS (aTru (aIsi "tuple" (aVar 2)))
  (aAsg (aOp aAdd (aOp aAdd (aVar 1) (aC (.str " "))) (aCall s_show_sentence (aCons (aVar 2) (aNil)))) (aGName 1))
  (aIfS (aB (aOp aIsN (aVar 2) (aC .non)))
  (aAsg (aOp aAdd (aVar 1) (aC (.str " -"))) (aGName 1))
  (aAsg (aOp aAdd (aOp aAdd (aVar 1) (aC (.str " "))) (aCall aStrA (aCons (aVar 2) (aNil)))) (aGName 1)))))
  (aRet (aVar 1)))
def s_show_sentence : Nat → ASp
  | 0 => fun _ _ _ => False
  | n + 1 => aBody 3 (a_show_sentence (s_show_sentence n))

/- read_number: slots 0:word 1:sign -/
def a_read_number : AS' :=
  aSeq (aIfS (aOr (aB (aOp aNinL (aCall aLen (aCons (aVar 0) (aNil))) (aTup (aCons (aC (.int 1)) (aCons (aC (.int 2)) (aNil)))))) (aNot (aTru (aCall aAll (aCons (aLc (aIS (aVar 0)) (aGName 1) (aYes) (aOp aInS (aVar 1) (aC (.str "0123456789"))) [1]) (aNil))))))
  (aNoS)
  (aNext))
  (aSeq (aIfS (aAnd (aB (aOp aEq (aCall aLen (aCons (aVar 0) (aNil))) (aC (.int 2)))) (aB (aOp aEq (aOp aIx (aVar 0) (aC (.int 0))) (aC (.str "0")))))
  (aNoS)
  (aNext))
  (aRet (aCall aIntS (aCons (aVar 0) (aNil)))))
def s_read_number : ASp := aBody 2 a_read_number

/- word_there: slots 0:words 1:at -/
def a_word_there : AS' :=
  aSeq (aIfS (aB (aOp aGe (aVar 1) (aCall aLen (aCons (aVar 0) (aNil)))))
  (aNoS)
  (aNext))
  (aRet (aOp aIx (aVar 0) (aVar 1)))
def s_word_there : ASp := aBody 2 a_word_there

/- law_pen: slots 0:law_script 1:law_first -/
def a_law_pen : AS' :=
  aRet (aDisp [(.inr "script", aVar 0), (.inr "at", aVar 1), (.inr "left", aC (.int 0))])
def s_law_pen : ASp := aBody 2 a_law_pen

/- law_mixed: slots 0:law_cell 1:law_k 2:law_one 3:law_two -/
def a_law_mixed : AS' :=
  aSeq (aAsg (aOp aMod (aOp aMul (aOp aAdd (aOp aAdd (aOp aMod (aVar 0) (aC (.int 2147483629))) (aOp aMul (aC (.int 40503)) (aVar 1))) (aC (.int 24691))) (aC (.int 48271))) (aC (.int 2147483647))) (aGName 2))
  (aSeq (aAsg (aOp aMod (aOp aAdd (aOp aAdd (aOp aMul (aVar 2) (aVar 2)) (aOp aMul (aC (.int 69621)) (aVar 2))) (aVar 1)) (aC (.int 2147483629))) (aGName 3))
  (aRet (aOp aDiv (aOp aMod (aOp aAdd (aOp aAdd (aOp aMul (aVar 3) (aVar 3)) (aOp aMul (aC (.int 16807)) (aVar 3))) (aOp aMul (aC (.int 31)) (aVar 1))) (aC (.int 1073741789))) (aC (.int 64)))))
def s_law_mixed : ASp := aBody 4 a_law_mixed

/- law_words: slots 0:law_sentence_here 1:law_words_here 2:law_part; calls itself -/
def a_law_words (s_law_words : ASp) : AS' :=
  aSeq (aAsg (aLstM (aCons (aOp aIx (aVar 0) (aC (.int 0))) (aNil))) (aGName 1))
  (aSeq (aFor (aIT (aSl aCut (aVar 0) (aPart (aC (.int 1))) aNoPart)) (aGName 2)
  (aIfS (aTru (aIsi "tuple" (aVar 2)))
  (aAsg (aOp aAddM (aVar 1) (aCall s_law_words (aCons (aVar 2) (aNil)))) (aGName 1))
  (aIfS (aB (aOp aIsN (aVar 2) (aC .non)))
  (aDrop (aMeth "list" aAppend (aVar 1) (aCons (aC (.str "-")) (aNil))))
  (aDrop (aMeth "list" aAppend (aVar 1) (aCons (aCall aStrA (aCons (aVar 2) (aNil))) (aNil)))))))
  (aFrz 1 (aRet (aVar 1))))
def s_law_words : Nat → ASp
  | 0 => fun _ _ _ => False
  | n + 1 => aBody 3 (a_law_words (s_law_words n))

/- law_same: slots 0:law_got 1:law_due 2:law_one 3:law_other; calls itself -/
def a_law_same (s_law_same : ASp) : AS' :=
  aSeq (aIfS (aTru (aIsi2 "list" "tuple" (aVar 1)))
  (aSeq (aIfS (aOr (aNot (aTru (aIsi2 "list" "tuple" (aVar 0)))) (aB (aOp aNe (aIsi "list" (aVar 0)) (aIsi "list" (aVar 1)))))
  (aRet (aC (.bl false)))
  (aNext))
  (aRet (aAndV (aOp aEq (aCall aLen (aCons (aVar 0) (aNil))) (aCall aLen (aCons (aVar 1) (aNil)))) (aCall aAll (aCons (aLc (aIZG (aCons (aVar 0) (aCons (aVar 1) (aNil)))) (aGTup 2 (aGCons (aGName 2) (aGCons (aGName 3) (aGNil)))) (aYes) (aCall s_law_same (aCons (aVar 2) (aCons (aVar 3) (aNil)))) [2, 3]) (aNil))))))
  (aNext))
  (aSeq (aIfS (aOr (aB (aOp aIsN (aVar 1) (aC .non))) (aTru (aIsi2 "bool" "str" (aVar 1))))
  (aRet (aOp aEq (aCall aRepr (aCons (aVar 0) (aNil))) (aCall aRepr (aCons (aVar 1) (aNil)))))
  (aNext))
  (aRet (aAndV (aIsi "int" (aVar 0)) (aAndV (aNotV (aIsi "bool" (aVar 0))) (aOp aEq (aVar 0) (aVar 1))))))
def s_law_same : Nat → ASp
  | 0 => fun _ _ _ => False
  | n + 1 => aBody 4 (a_law_same (s_law_same n))

/- is_tongue: slots 0:thing 1:signs 2:sign 3:kind -/
def a_is_tongue : AS' :=
  aSeq (aIfS (aOr (aNot (aTru (aIsi "tuple" (aVar 0)))) (aNot (aB (aChain aLe aLe (aC (.int 1)) (aCall aLen (aCons (aVar 0) (aNil))) (aC (.int 4))))))
  (aRet (aC (.bl false)))
  (aNext))
  (aSeq (aIfS (aNot (aTru (aCall aAll (aCons (aLc (aIT (aVar 0)) (aGName 3) (aYes) (aAndV (aIsi "str" (aVar 3)) (aChain aLe aLe (aC (.int 1)) (aCall aLen (aCons (aVar 3) (aNil))) (aC (.int 6)))) [3]) (aNil)))))
  (aRet (aC (.bl false)))
  (aNext))
  (aSeq (aAsg (aMeth "str" aJoin (aC (.str "")) (aCons (aVar 0) (aNil))) (aGName 1))
  (aSeq (aIfS (aOr (aB (aOp aGt (aCall aLen (aCons (aVar 1) (aNil))) (aC (.int 12)))) (aB (aOp aLt (aLenSet (aVar 1)) (aCall aLen (aCons (aVar 1) (aNil))))))
  (aRet (aC (.bl false)))
  (aNext))
  (aRet (aCall aAll (aCons (aLc (aIS (aVar 1)) (aGName 2) (aYes) (aCall s_is_sign (aCons (aVar 2) (aNil))) [2]) (aNil)))))))
def s_is_tongue : ASp := aBody 4 a_is_tongue

/- has_signs: slots 0:tongue 1:text 2:signs 3:sign -/
def a_has_signs : AS' :=
  aSeq (aAsg (aCall s_signs_of (aCons (aVar 0) (aNil))) (aGName 2))
  (aRet (aCall aAll (aCons (aLc (aIS (aVar 1)) (aGName 3) (aYes) (aOp aInS (aVar 3) (aVar 2)) [3]) (aNil))))
def s_has_signs : ASp := aBody 4 a_has_signs

/- is_within: slots 0:thing 1:low 2:high -/
def a_is_within : AS' :=
  aRet (aAndV (aCall s_is_whole (aCons (aVar 0) (aNil))) (aChain aLe aLe (aVar 1) (aVar 0) (aVar 2)))
def s_is_within : ASp := aBody 3 a_is_within

/- read_plain: slots 0:words 1:at 2:head 3:one 4:other -/
def a_read_plain : AS' :=
  aSeq (aAsg (aCall s_word_there (aCons (aVar 0) (aCons (aVar 1) (aNil)))) (aGName 2))
  (aSeq (aIfS (aB (aOp aEq (aVar 2) (aC (.str "apart"))))
  (aRet (aTup (aCons (aTup (aCons (aVar 2) (aNil))) (aCons (aOp aAdd (aVar 1) (aC (.int 1))) (aNil)))))
  (aNext))
  (aSeq (aAsg (aCall s_word_there (aCons (aVar 0) (aCons (aOp aAdd (aVar 1) (aC (.int 1))) (aNil)))) (aGName 3))
  (aSeq (aIfS (aB (aOp aInL (aVar 2) (aTup (aCons (aC (.str "without")) (aCons (aC (.str "begins")) (aCons (aC (.str "ends")) (aNil)))))))
  (aRet (aTup (aCons (aTup (aCons (aVar 2) (aCons (aVar 3) (aNil)))) (aCons (aOp aAdd (aVar 1) (aC (.int 2))) (aNil)))))
  (aNext))
  (aSeq (aAsg (aCall s_word_there (aCons (aVar 0) (aCons (aOp aAdd (aVar 1) (aC (.int 2))) (aNil)))) (aGName 4))
  (aSeq (aIfS (aAnd (aB (aOp aEq (aVar 2) (aC (.str "long")))) (aB (aOp aEq (aVar 4) (aC (.str "-")))))
  (aRet (aTup (aCons (aTup (aCons (aVar 2) (aCons (aCall s_read_number (aCons (aVar 3) (aNil))) (aCons (aC .non) (aNil))))) (aCons (aOp aAdd (aVar 1) (aC (.int 3))) (aNil)))))
  (aNext))
  (aSeq (aIfS (aB (aOp aInL (aVar 2) (aTup (aCons (aC (.str "long")) (aCons (aC (.str "least")) (aNil))))))
  (aRet (aTup (aCons (aTup (aCons (aVar 2) (aCons (aCall s_read_number (aCons (aVar 3) (aNil))) (aCons (aCall s_read_number (aCons (aVar 4) (aNil))) (aNil))))) (aCons (aOp aAdd (aVar 1) (aC (.int 3))) (aNil)))))
  (aNext))
  (aSeq (aIfS (aB (aOp aEq (aVar 2) (aC (.str "often"))))
  (aRet (aTup (aCons (aTup (aCons (aVar 2) (aCons (aVar 3) (aCons (aCall s_read_number (aCons (aVar 4) (aNil))) (aNil))))) (aCons (aOp aAdd (aVar 1) (aC (.int 3))) (aNil)))))
  (aNext))
  (aNoS))))))))
def s_read_plain : ASp := aBody 5 a_read_plain

/- law_take: slots 0:law_pen_here 1:law_most 2:law_k 3:law_script 4:law_cell 5:law_got -/
def a_law_take : AS' :=
  aSeq (aAsg (aGetK (aVar 0) (aC (.str "at"))) (aGName 2))
  (aSeq (aAsg (aGetK (aVar 0) (aC (.str "script"))) (aGName 3))
  (aSeq (aIfS (aB (aOp aEq (aGetK (aVar 0) (aC (.str "left"))) (aC (.int 0))))
  (aSeq (aPutK (aVar 0) (aC (.str "at")) (aOp aAdd (aVar 2) (aC (.int 1))))
  (aSeq (aAsg (aC (.int 0)) (aGName 4))
  (aSeq (aIfS (aB (aOp aGt (aCall aLen (aCons (aVar 3) (aNil))) (aC (.int 0))))
  (aAsg (aOp aIx (aVar 3) (aOp aMod (aVar 2) (aCall aLen (aCons (aVar 3) (aNil))))) (aGName 4))
  (aNext))
  (aSeq (aIfS (aOr (aB (aOp aGe (aVar 2) (aCall aLen (aCons (aVar 3) (aNil))))) (aB (aOp aLt (aCall aAbs (aCons (aVar 4) (aNil))) (aOp aPow (aC (.int 10)) (aC (.int 18))))))
  (aRet (aOp aMod (aCall s_law_mixed (aCons (aVar 4) (aCons (aVar 2) (aNil)))) (aVar 1)))
  (aNext))
  (aPutK (aVar 0) (aC (.str "left")) (aCall aAbs (aCons (aVar 4) (aNil))))))))
  (aNext))
  (aSeq (aAsg (aOp aMod (aGetK (aVar 0) (aC (.str "left"))) (aVar 1)) (aGName 5))
  (aSeq (aPutK (aVar 0) (aC (.str "left")) (aOp aDiv (aGetK (aVar 0) (aC (.str "left"))) (aVar 1)))
  (aRet (aVar 5))))))
def s_law_take : ASp := aBody 6 a_law_take

/- is_piece: slots 0:tongue 1:thing 2:most -/
def a_is_piece : AS' :=
  aRet (aAndV (aIsi "str" (aVar 1)) (aAndV (aChain aLe aLe (aC (.int 1)) (aCall aLen (aCons (aVar 1) (aNil))) (aVar 2)) (aCall s_has_signs (aCons (aVar 0) (aCons (aVar 1) (aNil))))))
def s_is_piece : ASp := aBody 3 a_is_piece

/- read_part: slots 0:words 1:at 2:deep 3:head 4:parts 5:k 6:part; calls itself -/
def a_read_part (s_read_part : ASp) : AS' :=
  aSeq (aAsg (aCall s_word_there (aCons (aVar 0) (aCons (aVar 1) (aNil)))) (aGName 3))
  (aSeq (aIfS (aB (aInTab tab_PARTS true (aVar 3)))
  (aRet (aCall s_read_plain (aCons (aVar 0) (aCons (aVar 1) (aNil)))))
  (aNext))
  (aSeq (aIfS (aB (aOp aEq (aVar 2) (aC (.int 4))))
  (aNoS)
  (aNext))
  (aSeq (aAsg (aLstM (aNil)) (aGName 4))
  (aSeq (aAsg (aOp aAdd (aVar 1) (aC (.int 1))) (aGName 1))
  (aSeq (aFor (aIR1 (aCons (aIxTab tab_PARTS (aVar 3)) (aNil))) (aGName 5)
  (aSeq (aAsg (aCall s_read_part (aCons (aVar 0) (aCons (aVar 1) (aCons (aOp aAdd (aVar 2) (aC (.int 1))) (aNil))))) (aGTup 2 (aGCons (aGName 6) (aGCons (aGName 1) (aGNil)))))
  (aDrop (aMeth "list" aAppend (aVar 4) (aCons (aVar 6) (aNil))))))
  (aFrz 4 (aRet (aTup (aCons (aOp aAdd (aTup (aCons (aVar 3) (aNil))) (aCall aTupleOf (aCons (aVar 4) (aNil)))) (aCons (aVar 1) (aNil)))))))))))
def s_read_part : Nat → ASp
  | 0 => fun _ _ _ => False
  | n + 1 => aBody 7 (a_read_part (s_read_part n))

/- law_tongue: slots 0:law_pen_here 1:law_many 2:law_signs 3:law_left 4:law_kinds 5:law_size 6:law_k -/
def a_law_tongue : AS' :=
  aSeq (aAsg (aCall aListSM (aCons (aC (.str "!\"#$&'()*+,-./0123456789:;<=>?\x40[\\]^_`{|}~")) (aNil))) (aGName 2))
  (aSeq (aAsg (aOp aAddM (aVar 2) (aCall aListS (aCons (aC (.str "ABCDEFGHIJKLMNOPQRSTUVWXYZabcdefghijklmnopqrstuvwxyz")) (aNil)))) (aGName 2))
  (aSeq (aAsg (aLc (aIR1 (aCons (aVar 1) (aNil))) (aGName 6) (aYes) (aMeth "list" aPopAt (aVar 2) (aCons (aCall s_law_take (aCons (aVar 0) (aCons (aCall aLen (aCons (aVar 2) (aNil))) (aNil)))) (aNil))) [6]) (aGName 3))
  (aSeq (aAsg (aLstM (aNil)) (aGName 4))
  (aSeq (aWhile (aB (aOp (aEqNil true) (aVar 3) (aLst (aNil))))
  (aSeq (aAsg (aOp aAdd (aC (.int 1)) (aCall s_law_take (aCons (aVar 0) (aCons (aCall aMin2 (aCons (aC (.int 6)) (aCons (aCall aLen (aCons (aVar 3) (aNil))) (aNil)))) (aNil))))) (aGName 5))
  (aSeq (aAsg (aCall aMax2 (aCons (aVar 5) (aCons (aOp aSub (aCall aLen (aCons (aVar 3) (aNil))) (aOp aMul (aC (.int 6)) (aOp aSub (aC (.int 3)) (aCall aLen (aCons (aVar 4) (aNil)))))) (aNil)))) (aGName 5))
  (aSeq (aDrop (aMeth "list" aAppend (aVar 4) (aCons (aMeth "str" aJoin (aC (.str "")) (aCons (aSl aCut (aVar 3) aNoPart (aPart (aVar 5))) (aNil))) (aNil))))
  (aAsg (aSl aCut (aVar 3) (aPart (aVar 5)) aNoPart) (aGName 3))))))
  (aFrz 4 (aRet (aCall aTupleOf (aCons (aVar 4) (aNil)))))))))
def s_law_tongue : ASp := aBody 7 a_law_tongue

/- law_piece: slots 0:law_pen_here 1:law_letters 2:law_most 3:law_k -/
def a_law_piece : AS' :=
  aRet (aMeth "str" aJoin (aC (.str "")) (aCons (aLc (aIR1 (aCons (aOp aAdd (aC (.int 1)) (aCall s_law_take (aCons (aVar 0) (aCons (aVar 2) (aNil))))) (aNil))) (aGName 3) (aYes) (aOp aIx (aVar 1) (aCall s_law_take (aCons (aVar 0) (aCons (aCall aLen (aCons (aVar 1) (aNil))) (aNil))))) [3]) (aNil)))
def s_law_piece : ASp := aBody 4 a_law_piece

/- fits: slots 0:tongue 1:thing 2:word -/
def a_fits : AS' :=
  aSeq (aAsg (aOp aIx (aVar 1) (aC (.int 0))) (aGName 2))
  (aSeq (aIfS (aB (aOp aEq (aVar 2) (aC (.str "long"))))
  (aSeq (aIfS (aNot (aTru (aCall s_is_within (aCons (aOp aIx (aVar 1) (aC (.int 1))) (aCons (aC (.int 0)) (aCons (aC (.int 30)) (aNil)))))))
  (aRet (aC (.bl false)))
  (aNext))
  (aRet (aOrV (aOp aIsN (aOp aIx (aVar 1) (aC (.int 2))) (aC .non)) (aCall s_is_within (aCons (aOp aIx (aVar 1) (aC (.int 2))) (aCons (aOp aIx (aVar 1) (aC (.int 1))) (aCons (aC (.int 30)) (aNil))))))))
  (aNext))
  (aSeq (aIfS (aB (aOp aEq (aVar 2) (aC (.str "least"))))
  (aRet (aAndV (aCall s_is_within (aCons (aOp aIx (aVar 1) (aC (.int 1))) (aCons (aC (.int 0)) (aCons (aOp aSub (aCall aLen (aCons (aVar 0) (aNil))) (aC (.int 1))) (aNil))))) (aCall s_is_within (aCons (aOp aIx (aVar 1) (aC (.int 2))) (aCons (aC (.int 0)) (aCons (aC (.int 9)) (aNil)))))))
  (aNext))
  (aSeq (aIfS (aB (aOp aEq (aVar 2) (aC (.str "often"))))
  (aSeq (aIfS (aOr (aNot (aTru (aCall s_is_piece (aCons (aVar 0) (aCons (aOp aIx (aVar 1) (aC (.int 1))) (aCons (aC (.int 4)) (aNil))))))) (aNot (aTru (aCall s_is_within (aCons (aOp aIx (aVar 1) (aC (.int 2))) (aCons (aC (.int 0)) (aCons (aC (.int 3)) (aNil))))))))
  (aRet (aC (.bl false)))
  (aNext))
  (aRet (aOp aEq (aLenSet (aOp aIx (aVar 1) (aC (.int 1)))) (aCall aLen (aCons (aOp aIx (aVar 1) (aC (.int 1))) (aNil))))))
  (aNext))
  (aSeq (aIfS (aB (aOp aInL (aVar 2) (aTup (aCons (aC (.str "without")) (aCons (aC (.str "begins")) (aCons (aC (.str "ends")) (aNil)))))))
  (aRet (aCall s_is_piece (aCons (aVar 0) (aCons (aOp aIx (aVar 1) (aC (.int 1))) (aCons (aC (.int 6)) (aNil))))))
  (aNext))
  (aRet (aC (.bl true)))))))
def s_fits : ASp := aBody 3 a_fits

/- law_any_tongue: slots 0:law_pen_here 1:law_some -/
def a_law_any_tongue : AS' :=
  aSeq (aAsg (aLstM (aCons (aTup (aCons (aC (.str "-")) (aNil))) (aCons (aTup (aCons (aC (.str "0")) (aCons (aC (.str "1")) (aCons (aC (.str "-")) (aNil))))) (aCons (aTup (aCons (aC (.str "long")) (aCons (aC (.str "-01")) (aNil)))) (aCons (aTup (aCons (aC (.str "ends")) (aCons (aC (.str "012")) (aCons (aC (.str "-")) (aNil))))) (aCons (aTup (aCons (aC (.str "not")) (aCons (aC (.str "hbi")) (aCons (aC (.str "0-e")) (aCons (aC (.str "|")) (aNil)))))) (aCons (aTup (aCons (aC (.str "1")) (aNil))) (aNil)))))))) (aGName 1))
  (aSeq (aDrop (aMeth "list" aAppend (aVar 1) (aCons (aTup (aCons (aC (.str "apr")) (aCons (aC (.str "t-0123")) (aCons (aC (.str "'\"\\")) (aNil))))) (aNil))))
  (aFrz 1 (aSeq (aIfS (aB (aOp aEq (aCall s_law_take (aCons (aVar 0) (aCons (aC (.int 4)) (aNil)))) (aC (.int 0))))
  (aRet (aOp aIx (aVar 1) (aCall s_law_take (aCons (aVar 0) (aCons (aC (.int 7)) (aNil))))))
  (aNext))
  (aRet (aCall s_law_tongue (aCons (aVar 0) (aCons (aOp aIx (aLst (aCons (aC (.int 2)) (aCons (aC (.int 3)) (aCons (aC (.int 4)) (aCons (aC (.int 1)) (aCons (aC (.int 6)) (aCons (aC (.int 12)) (aCons (aC (.int 5)) (aCons (aOp aAdd (aC (.int 1)) (aCall s_law_take (aCons (aVar 0) (aCons (aC (.int 12)) (aNil))))) (aNil)))))))))) (aCall s_law_take (aCons (aVar 0) (aCons (aC (.int 8)) (aNil))))) (aNil))))))))
def s_law_any_tongue : ASp := aBody 2 a_law_any_tongue

/- law_plain: slots 0:law_pen_here 1:law_tongue_here 2:law_letters 3:law_way 4:law_low 5:law_left 6:law_signs 7:law_k -/
def a_law_plain : AS' :=
  aSeq (aAsg (aMeth "str" aJoin (aC (.str "")) (aCons (aVar 1) (aNil))) (aGName 2))
  (aSeq (aAsg (aCall s_law_take (aCons (aVar 0) (aCons (aC (.int 7)) (aNil)))) (aGName 3))
  (aSeq (aIfS (aB (aOp aEq (aVar 3) (aC (.int 0))))
  (aSeq (aAsg (aCall s_law_take (aCons (aVar 0) (aCons (aC (.int 31)) (aNil)))) (aGName 4))
  (aRet (aTup (aCons (aC (.str "long")) (aCons (aVar 4) (aCons (aOp aIx (aLst (aCons (aOp aAdd (aVar 4) (aCall s_law_take (aCons (aVar 0) (aCons (aOp aSub (aC (.int 31)) (aVar 4)) (aNil))))) (aCons (aC .non) (aNil)))) (aCall aInt (aCons (aOp aEq (aCall s_law_take (aCons (aVar 0) (aCons (aC (.int 3)) (aNil)))) (aC (.int 0))) (aNil)))) (aNil)))))))
  (aNext))
  (aSeq (aIfS (aB (aOp aEq (aVar 3) (aC (.int 1))))
  (aRet (aTup (aCons (aC (.str "least")) (aCons (aCall s_law_take (aCons (aVar 0) (aCons (aCall aLen (aCons (aVar 1) (aNil))) (aNil)))) (aCons (aCall s_law_take (aCons (aVar 0) (aCons (aC (.int 10)) (aNil)))) (aNil))))))
  (aNext))
  (aSeq (aIfS (aB (aOp aEq (aVar 3) (aC (.int 2))))
  (aSeq (aAsg (aCall aListSM (aCons (aVar 2) (aNil))) (aGName 5))
  (aSeq (aAsg (aLc (aIR1 (aCons (aOp aAdd (aC (.int 1)) (aCall s_law_take (aCons (aVar 0) (aCons (aCall aMin2 (aCons (aC (.int 4)) (aCons (aCall aLen (aCons (aVar 2) (aNil))) (aNil)))) (aNil))))) (aNil))) (aGName 7) (aYes) (aMeth "list" aPopAt (aVar 5) (aCons (aCall s_law_take (aCons (aVar 0) (aCons (aCall aLen (aCons (aVar 5) (aNil))) (aNil)))) (aNil))) [7]) (aGName 6))
  (aRet (aTup (aCons (aC (.str "often")) (aCons (aMeth "str" aJoin (aC (.str "")) (aCons (aVar 6) (aNil))) (aCons (aCall s_law_take (aCons (aVar 0) (aCons (aC (.int 4)) (aNil)))) (aNil))))))))
  (aNext))
  (aSeq (aIfS (aB (aOp aEq (aVar 3) (aC (.int 3))))
  (aRet (aTup (aCons (aC (.str "apart")) (aNil))))
  (aNext))
  (aRet (aTup (aCons (aOp aIx (aLst (aCons (aC (.str "without")) (aCons (aC (.str "begins")) (aCons (aC (.str "ends")) (aNil))))) (aOp aSub (aVar 3) (aC (.int 4)))) (aCons (aCall s_law_piece (aCons (aVar 0) (aCons (aVar 2) (aCons (aC (.int 6)) (aNil))))) (aNil))))))))))
def s_law_plain : ASp := aBody 8 a_law_plain

/- is_formed: slots 0:tongue 1:thing -/
def a_is_formed : AS' :=
  aSeq (aIfS (aOr (aNot (aTru (aIsi "tuple" (aVar 1)))) (aOr (aB (aOp aEq (aCall aLen (aCons (aVar 1) (aNil))) (aC (.int 0)))) (aNot (aTru (aIsi "str" (aOp aIx (aVar 1) (aC (.int 0))))))))
  (aRet (aC (.bl false)))
  (aNext))
  (aRet (aAndV (aInTab tab_LENGTHS false (aOp aIx (aVar 1) (aC (.int 0)))) (aAndV (aOp aEq (aCall aLen (aCons (aVar 1) (aNil))) (aIxTab tab_LENGTHS (aOp aIx (aVar 1) (aC (.int 0))))) (aCall s_fits (aCons (aVar 0) (aCons (aVar 1) (aNil)))))))
def s_is_formed : ASp := aBody 2 a_is_formed

/- law_sentence: slots 0:law_pen_here 1:law_tongue_here 2:law_deep 3:law_room 4:law_way 5:law_one; calls itself -/
def a_law_sentence (s_law_sentence : ASp) : AS' :=
  aSeq (aAsg (aCall s_law_take (aCons (aVar 0) (aCons (aC (.int 5)) (aNil)))) (aGName 4))
  (aSeq (aIfS (aOr (aB (aOp aEq (aVar 2) (aC (.int 4)))) (aOr (aB (aOp aGt (aVar 4) (aC (.int 2)))) (aB (aOp aEq (aOp aIx (aVar 3) (aC (.int 0))) (aC (.int 0))))))
  (aRet (aCall s_law_plain (aCons (aVar 0) (aCons (aVar 1) (aNil)))))
  (aNext))
  (aSeq (aIfS (aOr (aB (aOp aEq (aVar 4) (aC (.int 0)))) (aB (aOp aEq (aOp aIx (aVar 3) (aC (.int 0))) (aC (.int 1)))))
  (aSeq (aAsg (aOp aSub (aOp aIx (aVar 3) (aC (.int 0))) (aC (.int 1))) (aGSet (aVar 3) (aC (.int 0))))
  (aRet (aTup (aCons (aC (.str "not")) (aCons (aCall s_law_sentence (aCons (aVar 0) (aCons (aVar 1) (aCons (aOp aAdd (aVar 2) (aC (.int 1))) (aCons (aVar 3) (aNil)))))) (aNil))))))
  (aNext))
  (aSeq (aAsg (aOp aSub (aOp aIx (aVar 3) (aC (.int 0))) (aC (.int 2))) (aGSet (aVar 3) (aC (.int 0))))
  (aSeq (aAsg (aCall s_law_sentence (aCons (aVar 0) (aCons (aVar 1) (aCons (aOp aAdd (aVar 2) (aC (.int 1))) (aCons (aVar 3) (aNil)))))) (aGName 5))
  (aRet (aTup (aCons (aOp aIx (aLst (aCons (aC (.str "both")) (aCons (aC (.str "either")) (aNil)))) (aOp aSub (aVar 4) (aC (.int 1)))) (aCons (aVar 5) (aCons (aCall s_law_sentence (aCons (aVar 0) (aCons (aVar 1) (aCons (aOp aAdd (aVar 2) (aC (.int 1))) (aCons (aVar 3) (aNil)))))) (aNil))))))))))
def s_law_sentence : Nat → ASp
  | 0 => fun _ _ _ => False
  | n + 1 => aBody 6 (a_law_sentence (s_law_sentence n))

/- is_sentence: slots 0:tongue 1:thing 2:layer 3:many 4:deep 5:one 6:further -/
def a_is_sentence : AS' :=
  aSeq (aAsg (aLst (aCons (aVar 1) (aNil))) (aGName 2))
  (aSeq (aAsg (aC (.int 0)) (aGName 3))
  (aSeq (aFor (aIR1 (aCons (aC (.int 4)) (aNil))) (aGName 4)
  (aSeq (aAsg (aOp aAdd (aVar 3) (aCall aLen (aCons (aVar 2) (aNil)))) (aGName 3))
  (aSeq (aIfS (aOr (aB (aOp aGt (aVar 3) (aC (.int 9)))) (aNot (aTru (aCall aAll (aCons (aLc (aIL (aVar 2)) (aGName 5) (aYes) (aCall s_is_formed (aCons (aVar 0) (aCons (aVar 5) (aNil)))) [5]) (aNil))))))
  (aRet (aC (.bl false)))
  (aNext))
  (aSeq (aAsg (aLstM (aNil)) (aGName 6))
  (aSeq (aFor (aIL (aVar 2)) (aGName 5)
  (aDrop (aMeth "list" aExtend (aVar 6) (aCons (aCall s_parts_of (aCons (aVar 5) (aNil))) (aNil)))))
  (aFrz 6 (aAsg (aVar 6) (aGName 2))))))))
  (aRet (aOp (aEqNil false) (aVar 2) (aLst (aNil))))))
def s_is_sentence : ASp := aBody 7 a_is_sentence

/- is_rule: slots 0:thing 1:one -/
def a_is_rule : AS' :=
  aSeq (aIfS (aOr (aNot (aTru (aIsi "tuple" (aVar 0)))) (aOr (aB (aOp aNe (aCall aLen (aCons (aVar 0) (aNil))) (aC (.int 2)))) (aNot (aTru (aCall s_is_tongue (aCons (aOp aIx (aVar 0) (aC (.int 0))) (aNil)))))))
  (aRet (aC (.bl false)))
  (aNext))
  (aSeq (aIfS (aOr (aNot (aTru (aIsi "tuple" (aOp aIx (aVar 0) (aC (.int 1)))))) (aB (aOp aGt (aCall aLen (aCons (aOp aIx (aVar 0) (aC (.int 1))) (aNil))) (aC (.int 8)))))
  (aRet (aC (.bl false)))
  (aNext))
  (aRet (aCall aAll (aCons (aLc (aIT (aOp aIx (aVar 0) (aC (.int 1)))) (aGName 1) (aYes) (aCall s_is_sentence (aCons (aOp aIx (aVar 0) (aC (.int 0))) (aCons (aVar 1) (aNil)))) [1]) (aNil)))))
def s_is_rule : ASp := aBody 2 a_is_rule

/- show_rule: slots 0:rule 1:lines 2:sentence -/
def a_show_rule : AS' :=
  aSeq (aAsg (aLst (aCons (aOp aAdd (aC (.str "signs ")) (aMeth "str" aJoin (aC (.str " ")) (aCons (aOp aIx (aVar 0) (aC (.int 0))) (aNil)))) (aNil))) (aGName 1))
  (aRet (aMeth "str" aJoin (aC (.str "\n")) (aCons (aOp aAdd (aVar 1) (aLc (aIT (aOp aIx (aVar 0) (aC (.int 1)))) (aGName 2) (aYes) (aCall (s_show_sentence 8) (aCons (aVar 2) (aNil))) [2])) (aNil))))
def s_show_rule : ASp := aBody 3 a_show_rule

/- law_text: slots 0:law_rule_here 1:law_lines 2:law_sentence_here -/
def a_law_text : AS' :=
  aSeq (aAsg (aLstM (aCons (aMeth "str" aJoin (aC (.str " ")) (aCons (aOp aAdd (aLst (aCons (aC (.str "signs")) (aNil))) (aCall aListOf (aCons (aOp aIx (aVar 0) (aC (.int 0))) (aNil)))) (aNil))) (aNil))) (aGName 1))
  (aSeq (aFor (aIT (aOp aIx (aVar 0) (aC (.int 1)))) (aGName 2)
  (aDrop (aMeth "list" aAppend (aVar 1) (aCons (aMeth "str" aJoin (aC (.str " ")) (aCons (aCall (s_law_words 8) (aCons (aVar 2) (aNil))) (aNil))) (aNil)))))
  (aFrz 1 (aRet (aMeth "str" aJoin (aC (.str "\n")) (aCons (aVar 1) (aNil))))))
def s_law_text : ASp := aBody 3 a_law_text

/- read_sentence: slots 0:tongue 1:text 2:words 3:sentence 4:at -/
def a_read_sentence : AS' :=
  aSeq (aAsg (aMeth "str" aSplit (aVar 1) (aCons (aC (.str " ")) (aNil))) (aGName 2))
  (aSeq (aAsg (aCall (s_read_part 8) (aCons (aVar 2) (aCons (aC (.int 0)) (aCons (aC (.int 1)) (aNil))))) (aGTup 2 (aGCons (aGName 3) (aGCons (aGName 4) (aGNil)))))
  (aSeq (aIfS (aOr (aB (aOp aNe (aVar 4) (aCall aLen (aCons (aVar 2) (aNil))))) (aNot (aTru (aCall s_is_sentence (aCons (aVar 0) (aCons (aVar 3) (aNil)))))))
  (aNoS)
  (aNext))
  (aRet (aVar 3))))
def s_read_sentence : ASp := aBody 5 a_read_sentence

/- read_rule: slots 0:text 1:lines 2:words 3:tongue 4:rule 5:line -/
def a_read_rule : AS' :=
  aSeq (aIfS (aNot (aTru (aIsi "str" (aVar 0))))
  (aNoS)
  (aNext))
  (aSeq (aAsg (aMeth "str" aSplit (aVar 0) (aCons (aC (.str "\n")) (aNil))) (aGName 1))
  (aSeq (aAsg (aMeth "str" aSplit (aOp aIx (aVar 1) (aC (.int 0))) (aCons (aC (.str " ")) (aNil))) (aGName 2))
  (aSeq (aAsg (aCall aTupleOf (aCons (aSl aCut (aVar 2) (aPart (aC (.int 1))) aNoPart) (aNil))) (aGName 3))
  (aSeq (aIfS (aOr (aB (aOp aNe (aOp aIx (aVar 2) (aC (.int 0))) (aC (.str "signs")))) (aOr (aNot (aTru (aCall s_is_tongue (aCons (aVar 3) (aNil))))) (aB (aOp aGt (aCall aLen (aCons (aVar 1) (aNil))) (aC (.int 9))))))
  (aNoS)
  (aNext))
  (aSeq (aAsg (aTup (aCons (aVar 3) (aCons (aCall aTupleOf (aCons (aLc (aIL (aSl aCut (aVar 1) (aPart (aC (.int 1))) aNoPart)) (aGName 5) (aYes) (aCall s_read_sentence (aCons (aVar 3) (aCons (aVar 5) (aNil)))) [5]) (aNil))) (aNil)))) (aGName 4))
  (aSeq (aIfS (aNot (aTru (aCall s_is_rule (aCons (aVar 4) (aNil)))))
  (aNoS)
  (aNext))
  (aRet (aVar 4))))))))
def s_read_rule : ASp := aBody 6 a_read_rule

/- law_rule: slots 0:law_pen_here 1:law_most 2:law_tongue_here 3:law_k -/
def a_law_rule : AS' :=
  aSeq (aAsg (aCall s_law_any_tongue (aCons (aVar 0) (aNil))) (aGName 2))
  (aRet (aTup (aCons (aVar 2) (aCons (aCall aTupleOf (aCons (aLc (aIR1 (aCons (aCall s_law_take (aCons (aVar 0) (aCons (aOp aAdd (aVar 1) (aC (.int 1))) (aNil)))) (aNil))) (aGName 3) (aYes) (aCall (s_law_sentence 8) (aCons (aVar 0) (aCons (aVar 2) (aCons (aC (.int 1)) (aCons (aLstM (aCons (aC (.int 8)) (aNil))) (aNil)))))) [3]) (aNil))) (aNil)))))
def s_law_rule : ASp := aBody 4 a_law_rule

/- law: slots 0:law_script 1:law_rules 2:law_words_here 3:law_inner 4:law_full 5:law_rule_here 6:law_text_here 7:law_told -/
def a_law : AS' :=
  aSeq (aAsg (aLst (aCons (aCall s_law_rule (aCons (aCall s_law_pen (aCons (aVar 0) (aCons (aC (.int 0)) (aNil)))) (aCons (aC (.int 8)) (aNil)))) (aCons (aCall s_law_rule (aCons (aCall s_law_pen (aCons (aVar 0) (aCons (aC (.int 31)) (aNil)))) (aCons (aC (.int 3)) (aNil)))) (aNil)))) (aGName 1))
  (aSeq (aAsg (aMeth "str" aSplit (aC (.str "both both both apart apart apart both apart apart")) (aCons (aC (.str " ")) (aNil))) (aGName 2))
  (aSeq (aAsg (aTup (aCons (aC (.str "both")) (aCons (aTup (aCons (aC (.str "apart")) (aNil))) (aCons (aTup (aCons (aC (.str "apart")) (aNil))) (aNil))))) (aGName 3))
  (aSeq (aAsg (aTup (aCons (aOp aIx (aOp aIx (aVar 1) (aC (.int 0))) (aC (.int 0))) (aCons (aTup (aCons (aTup (aCons (aC (.str "both")) (aCons (aTup (aCons (aC (.str "both")) (aCons (aVar 3) (aCons (aTup (aCons (aC (.str "apart")) (aNil))) (aNil))))) (aCons (aVar 3) (aNil))))) (aNil))) (aNil)))) (aGName 4))
  (aSeq (aIfS (aB (aOp aNe (aLst (aCons (aMeth "str" aJoin (aC (.str " ")) (aCons (aVar 2) (aNil))) (aNil))) (aLst (aCons (aMeth "str" aJoin (aC (.str " ")) (aCons (aCall (s_law_words 8) (aCons (aOp aIx (aOp aIx (aVar 4) (aC (.int 1))) (aC (.int 0))) (aNil))) (aNil))) (aNil)))))
  (aRet (aC (.bl false)))
  (aNext))
  (aSeq (aFor (aIL (aOp aAdd (aOp aAdd (aOp aAdd (aVar 1) (aLst (aCons (aVar 4) (aNil)))) (aVar 1)) (aLst (aCons (aVar 4) (aNil))))) (aGName 5)
  (aSeq (aAsg (aCall s_law_text (aCons (aVar 5) (aNil))) (aGName 6))
  (aSeq (aAsg (aCall s_show_rule (aCons (aVar 5) (aNil))) (aGName 7))
  (aIfS (aOr (aNot (aTru (aIsi "str" (aVar 7)))) (aOr (aB (aOp aNe (aVar 7) (aVar 6))) (aNot (aTru (aCall (s_law_same 8) (aCons (aCall s_read_rule (aCons (aVar 6) (aNil))) (aCons (aVar 5) (aNil))))))))
  (aRet (aC (.bl false)))
  (aNext)))))
  (aRet (aC (.bl true))))))))
def s_law : ASp := aBody 8 a_law

end A_k56
namespace A_k56
open PySem L2 AL
def PenC (c : Cell) : Prop := ∃ (ns : List Int) (k l : Int), c = penD (.scr ns) (.int k) (.int l) ∧ 0 ≤ k ∧ 0 ≤ l
def Pen (C : AH) (p : Addr) : Prop := ∃ c, C p = some c ∧ PenC c
theorem pen_put {C : AH} {p : Addr} {c : Cell} (h : PenC c) : Pen (put C p c) p := ⟨c, put_same, h⟩
theorem Pen.other {C : AH} {p q : Addr} {c : Cell} (h : Pen C p) (hn : p ≠ q) : Pen (put C q c) p := by
  obtain ⟨d, h1, h2⟩ := h
  exact ⟨d, put_other hn h1, h2⟩
theorem Pen.otherD {C : AH} {p q : Addr} (h : Pen C p) (hn : p ≠ q) : Pen (del C q) p := by
  obtain ⟨d, h1, h2⟩ := h
  exact ⟨d, del_other hn h1, h2⟩
theorem mixed_ok {x k : Int} {C : AH} {P : D → AH → Prop} (h : ∀ i, P (.int i) C) : s_law_mixed [.int x, .int k] C P := by
  unfold s_law_mixed a_law_mixed
  walk_at "go"
  exact h _
theorem take_ok {p : Addr} {m : Int} {C : AH} {P : D → AH → Prop} (hp : Pen C p) (hm : 0 < m) (hm2 : m < 1073741824)
    (h : ∀ c d, PenC c → 0 ≤ d → d < m → P (.int d) (put C p c)) : s_law_take [.ce p, .int m] C P := by
  obtain ⟨_, hC, ns, k, l, rfl, hk, hl⟩ := hp
  unfold s_law_take a_law_take
  walk_at "go"
  refine g_ifJ (fun st C' => ∃ (k2 l2 : Int) (x4 x5 : Option D), 0 ≤ k2 ∧ 0 ≤ l2 ∧ (∀ z, put C' p z = put C p z) ∧ C' p = some (penD (.scr ns) (.int k2) (.int l2)) ∧ st = [some (.ce p), some (.int m), some (.int k), some (.scr ns), x4, x5]) (fun N hN => ?_) (fun st C' hw => ?_)
  · refine g_ifS ?_
    walk_at "go"
    refine g_ite (fun h0 => ?_) (fun h0 => ?_)
    · walk_at "go"
      refine g_ifJ (fun st C' => ∃ x : Int, st = [some (.ce p), some (.int m), some (.int k), some (.scr ns), some (.int x), none] ∧ C' = put C p (penD (.scr ns) (.int (k + 1)) (.int l))) (fun N hN => ?_) (fun st C' hw => ?_)
      · refine g_ifS ?_
        walk_at "go"
        refine g_ite (fun h1 => ?_) (fun h1 => ?_)
        · have hl : 0 < ns.length := by have := of_decide_eq_true h1; omega
          walk_at "go"
          refine g_ixR (d := .int (ns.getD (k.toNat % ns.length) 0)) ?_ ?_
          · have e : k % (ns.length : Int) = ((k.toNat % ns.length : Nat) : Int) := by
              rw [Int.natCast_emod, Int.toNat_of_nonneg hk]
            rw [e]
            refine atI_nat' ?_
            have hl : k.toNat % ns.length < ns.length := Nat.mod_lt _ hl
            rw [List.getElem?_map, List.getElem?_eq_getElem hl]
            simp [List.getD, List.getElem?_eq_getElem hl]
          walk_at "go"
          exact hN _ _ ⟨_, rfl, rfl⟩
        · walk_at "go"
          exact hN _ _ ⟨_, rfl, rfl⟩
      · obtain ⟨x, rfl, rfl⟩ := hw
        walk_at "go"
        refine g_ifJ (fun st C' => st = [some (.ce p), some (.int m), some (.int k), some (.scr ns), some (.int x), none] ∧ C' = put C p (penD (.scr ns) (.int (k + 1)) (.int l))) (fun N hN => ?_) (fun st C' hw => ?_)
        · refine g_ifS ?_
          have ret : ∀ N2 : ASt → AH → Prop, (aRet (aOp aMod (aCall s_law_mixed (aCons (aVar 4) (aCons (aVar 2) (aNil)))) (aVar 1))) ⟨N2, P, fun _ _ => False, fun _ _ => False⟩ [some (.ce p), some (.int m), some (.int k), some (.scr ns), some (.int x), none] (put C p (penD (.scr ns) (.int (k + 1)) (.int l))) := by
            intro N2
            walk_at "go"
            refine mixed_ok fun i => ?_
            walk_at "go"
            exact h _ _ ⟨ns, k + 1, l, rfl, by omega, hl⟩ (Int.emod_nonneg _ (by omega)) (Int.emod_lt_of_pos _ hm)
          walk_at "go"
          refine g_ite (fun h2 => ?_) (fun h2 => ?_)
          · refine g_iteT ?_
            exact ret _
          · walk_at "go"
            refine g_ite (fun h3 => ?_) (fun h3 => ?_)
            · exact ret _
            · walk_at "go"
              exact hN _ _ ⟨rfl, rfl⟩
        · obtain ⟨rfl, rfl⟩ := hw
          walk_at "go"
          refine hN _ _ ⟨k + 1, (if x < 0 then -x else x), _, _, by omega, by split <;> omega, fun z => by rw [put_put, put_put], ?_, rfl⟩
          rw [put_put, put_same]
    · walk_at "go"
      exact hN _ _ ⟨k, l, _, _, hk, hl, fun z => rfl, hC, rfl⟩
  · obtain ⟨k2, l2, x4, x5, hk2, hl2, hp2, hC2, rfl⟩ := hw
    walk_at "go"
    rw [hp2]
    exact h _ _ ⟨ns, k2, _, rfl, hk2, Int.ediv_nonneg hl2 (by omega)⟩ (Int.emod_nonneg _ (by omega)) (Int.emod_lt_of_pos _ hm)
end A_k56

namespace A_k56
open PySem L2 AL
theorem take_nat {p : Addr} {m : Nat} {C : AH} {P : D → AH → Prop} (hp : Pen C p) (hm : 0 < m) (hm2 : m < 1073741824)
    (k : ∀ c (d : Nat), PenC c → d < m → P (.int d) (put C p c)) : s_law_take [.ce p, .int m] C P := by
  refine take_ok hp (by omega) (by omega) fun c d hc h0 h1 => ?_
  have e : d = ((d.toNat : Nat) : Int) := by omega
  rw [e]
  exact k c d.toNat hc (by omega)
theorem pen_ok {ns : List Int} {j : Nat} {C : AH} {P : D → AH → Prop} (k : ∀ p c, C p = none → PenC c → P (.ce p) (put C p c)) : s_law_pen [.scr ns, .int j] C P := by
  unfold s_law_pen a_law_pen
  walk_at "go"
  refine g_newPen rfl rfl fun p hp => ?_
  exact k p _ hp ⟨ns, _, _, rfl, by omega, by omega⟩
theorem g_addMC {C : AH} {P : D → AH → Prop} {p : Addr} {i j : List D} (h0 : C p = some (.lst i)) (h1 : i.length + j.length ≤ sizeLine) (h : ∀ q, C q = none → P (.ce q) (put C q (.lst (i ++ j)))) : aAddM (.ce p) (.lst j) C P := ⟨i, j, by simp [asL, h0], rfl, h1, h⟩
def goodB (c : Nat) : Bool := decide (33 ≤ c) && decide (c ≤ 126) && decide (c ≠ 37)
/-- kinds of signs, all unlike -/
structure Tongue (tg : List Str) : Prop where
  pos : 1 ≤ tg.length
  most : tg.length ≤ 4
  one : ∀ y ∈ tg, 1 ≤ y.length
  size : ((tg.map chars).flatten).length ≤ 12
  unlike : ((tg.map chars).flatten).Nodup
  asc : ∀ y ∈ (tg.map chars).flatten, ∃ c : Nat, c < 128 ∧ y = ⟨#[c]⟩
  six : ∀ y ∈ tg, y.length ≤ 6
  good : ∀ y ∈ (tg.map chars).flatten, ∃ c : Nat, goodB c = true ∧ y = ⟨#[c]⟩
def Gs (y : Str) : Prop := ∃ c : Nat, goodB c = true ∧ y = ⟨#[c]⟩
theorem goodB_lt {c : Nat} (h : goodB c = true) : 33 ≤ c ∧ c < 128 := by
  simp only [goodB, Bool.and_eq_true, decide_eq_true_eq] at h
  omega
theorem Gs.len {y : Str} (h : Gs y) : y.length = 1 := by obtain ⟨c, _, rfl⟩ := h; rfl
theorem gs_len {ys : List Str} (h : ∀ y ∈ ys, Gs y) : (ys.map (·.length)).sum = ys.length := by
  induction ys with
  | nil => rfl
  | cons y ys ih =>
    rw [List.map_cons, List.sum_cons, ih fun z hz => h z (List.mem_cons_of_mem _ hz), (h y (List.mem_cons_self ..)).len, List.length_cons]
    omega
theorem chars_join : ∀ {ys : List Str}, (∀ y ∈ ys, Gs y) → chars (Txt.join "" ys) = ys := by
  intro ys h
  unfold chars
  rw [join_toList]
  induction ys with
  | nil => rfl
  | cons y ys ih =>
    obtain ⟨c, _, rfl⟩ := h y (List.mem_cons_self ..)
    rw [List.map_cons, List.flatten_cons, List.map_append, ih fun z hz => h z (List.mem_cons_of_mem _ hz)]
    rfl
theorem chars_gs {z : Str} (h : (z.cps.toList.all goodB) = true) : ∀ y ∈ chars z, Gs y := by
  intro y hy
  obtain ⟨c, hc, rfl⟩ := List.mem_map.mp hy
  exact ⟨c, List.all_eq_true.mp h c hc, rfl⟩
theorem erase_perm : ∀ (ys : List Str) (j : Nat) (h : j < ys.length), (ys[j] :: ys.eraseIdx j).Perm ys
  | y :: ys, 0, _ => List.Perm.refl _
  | y :: ys, j + 1, h => by
    have hj : j < ys.length := by simpa using h
    exact (List.Perm.swap y ys[j] (ys.eraseIdx j)).trans ((erase_perm ys j hj).cons y)
theorem lets_ok : (("!\"#$&'()*+,-./0123456789:;<=>?\x40[\\]^_`{|}~" : Str).cps.toList.all goodB && ("ABCDEFGHIJKLMNOPQRSTUVWXYZabcdefghijklmnopqrstuvwxyz" : Str).cps.toList.all goodB && decide (("!\"#$&'()*+,-./0123456789:;<=>?\x40[\\]^_`{|}~" : Str).length = 41) && decide (("ABCDEFGHIJKLMNOPQRSTUVWXYZabcdefghijklmnopqrstuvwxyz" : Str).length = 52) && decide ((chars "!\"#$&'()*+,-./0123456789:;<=>?\x40[\\]^_`{|}~" ++ chars "ABCDEFGHIJKLMNOPQRSTUVWXYZabcdefghijklmnopqrstuvwxyz").Nodup)) = true := by decide +kernel
theorem tongue_ok {p : Addr} {m : Nat} {C : AH} {P : D → AH → Prop} (hp : Pen C p) (h1 : 1 ≤ m) (hm : m ≤ 12) (k : ∀ tg C', Tongue tg → Pen C' p → Oth p C C' → P (.tup (strsL tg)) C') : s_law_tongue [.ce p, .int m] C P := by
  unfold s_law_tongue a_law_tongue
  have hok := lets_ok
  simp only [Bool.and_eq_true, decide_eq_true_eq] at hok
  obtain ⟨⟨⟨⟨hoA, hoB⟩, hlA⟩, hlB⟩, hnd⟩ := hok
  walk_at "go"
  refine g_listSM (by decide +kernel) fun q hq => ?_
  have hpq : p ≠ q := by obtain ⟨_, h, _⟩ := hp; exact ne_cell h hq
  rw [signs_chars]
  have hP := hp.other (c := .lst (strsL (chars "!\"#$&'()*+,-./0123456789:;<=>?\x40[\\]^_`{|}~"))) hpq
  have hCq : (put C q (.lst (strsL (chars "!\"#$&'()*+,-./0123456789:;<=>?\x40[\\]^_`{|}~")))) q = some (.lst (strsL (chars "!\"#$&'()*+,-./0123456789:;<=>?\x40[\\]^_`{|}~"))) := put_same
  have hl1 : (chars "!\"#$&'()*+,-./0123456789:;<=>?\x40[\\]^_`{|}~").length = 41 := by rw [chars_len]; exact hlA
  have hg1 := chars_gs hoA
  generalize chars "!\"#$&'()*+,-./0123456789:;<=>?\x40[\\]^_`{|}~" = s1 at hP hCq hl1 hg1 hnd ⊢
  have hO1 := (Oth.refl p C).put (c := .lst (strsL s1)) hq
  generalize put C q (.lst (strsL s1)) = C1 at hP hCq hO1 ⊢
  walk_at "go"
  refine g_listS (by decide +kernel) ?_
  rw [signs_chars]
  have hl2 : (chars "ABCDEFGHIJKLMNOPQRSTUVWXYZabcdefghijklmnopqrstuvwxyz").length = 52 := by rw [chars_len]; exact hlB
  have hg2 := chars_gs hoB
  generalize chars "ABCDEFGHIJKLMNOPQRSTUVWXYZabcdefghijklmnopqrstuvwxyz" = s2 at hl2 hg2 hnd ⊢
  refine g_addMC hCq (by rw [List.length_map, List.length_map, hl1, hl2]; simp only [sizeLine]; omega) fun r hr => ?_
  have hpr : p ≠ r := by obtain ⟨_, h, _⟩ := hP; exact ne_cell h hr
  rw [show strsL s1 ++ strsL s2 = strsL (s1 ++ s2) from (List.map_append ..).symm]
  have hP2 := hP.other (c := .lst (strsL (s1 ++ s2))) hpr
  have hCr : (put C1 r (.lst (strsL (s1 ++ s2)))) r = some (.lst (strsL (s1 ++ s2))) := put_same
  have hl3 : (s1 ++ s2).length = 93 := by rw [List.length_append, hl1, hl2]
  have hg3 : ∀ y ∈ s1 ++ s2, Gs y := fun y hy => by
    rcases List.mem_append.mp hy with h | h
    · exact hg1 y h
    · exact hg2 y h
  generalize s1 ++ s2 = s3 at hP2 hCr hl3 hg3 hnd ⊢
  have hr0 : C r = none := hO1.none hpr.symm hr
  have hO2 := hO1.put (c := .lst (strsL s3)) hr0
  generalize put C1 r (.lst (strsL s3)) = C2 at hP2 hCr hO2 ⊢
  walk_at "go"
  have hrl : (rangeD 0 (m : Int).toNat).length = m := by rw [rangeD_len]; rfl
  refine g_kLc (fun i acc C9 => ∃ xs ys : List Str, acc = strsL xs ∧ xs.length = i ∧ (∀ y ∈ xs, Gs y) ∧ C9 r = some (.lst (strsL ys)) ∧ ys.length + i = 93 ∧ (∀ y ∈ ys, Gs y) ∧ (xs ++ ys).Nodup ∧ Pen C9 p ∧ Oth p C C9) (by rw [hrl]; simp only [sizeLine]; omega) ⟨[], s3, rfl, rfl, by simp, hCr, by omega, hg3, by simpa using hnd, hP2, hO2⟩ (fun i d acc C9 hi hw => ?_) (fun acc C9 hw => ?_)
  · have hi12 : i < m := by have := (List.getElem?_eq_some_iff.mp hi).1; rw [hrl] at this; exact this
    obtain ⟨xs, ys, rfl, hxl, hx1, hC9, hyl, hy1, hnd, hP9, hO9⟩ := hw
    walk_at "go"
    rw [List.length_map]
    refine take_nat hP9 (by omega) (by omega) fun c j hc hj => ?_
    walk_at "go"
    refine g_popS (put_other hpr.symm hC9) hj (by omega) ?_
    refine ⟨xs ++ [ys[j]], ys.eraseIdx j, by simp, by simp [hxl], ?_, put_same, by rw [List.length_eraseIdx_of_lt hj]; omega, fun y hy => hy1 y (List.mem_of_mem_eraseIdx hy), ?_, (pen_put hc).other hpr, hO9.pen.put hr0⟩
    · intro y hy
      rcases List.mem_append.mp hy with h | h
      · exact hx1 y h
      · rw [List.mem_singleton.mp h]; exact hy1 _ (List.getElem_mem hj)
    · have hperm : (xs ++ [ys[j]] ++ ys.eraseIdx j).Perm (xs ++ ys) := by
        rw [List.append_assoc]
        exact List.Perm.append_left xs (erase_perm ys j hj)
      exact hperm.nodup_iff.mpr hnd
  · obtain ⟨xs0, ys, rfl, hxl, hx1, hC9, hyl, hy1, hnd0, hP9, hO9⟩ := hw
    rw [hrl] at hxl
    have hnd := (List.nodup_append.mp hnd0).1
    walk_at "go"
    intro g hg
    have hpg : p ≠ g := by obtain ⟨_, h, _⟩ := hP9; exact ne_cell h hg
    have hg0 : C g = none := hO9.none hpg.symm hg
    walk_at "go"
    refine g_while (fun n st C' => ∃ (left kinds : List Str) (x5 : Option D), left.length = n ∧ (kinds.map chars).flatten ++ left = xs0 ∧ (∀ y ∈ kinds, 1 ≤ y.length ∧ y.length ≤ 6) ∧ left.length ≤ 6 * (4 - kinds.length) ∧ kinds.length ≤ 4 ∧ C' g = some (.lst (strsL kinds)) ∧ Pen C' p ∧ Oth p C C' ∧
      st = [some (.ce p), some (.int m), some (.ce r), some (.lst (strsL left)), some (.ce g), x5, none]) m ?_ (fun n st C' hw => ?_)
    · exact ⟨xs0, [], none, hxl, rfl, by simp, by simp; omega, by simp, put_same, hP9.other hpg, hO9.put hg0, rfl⟩
    · obtain ⟨left, kinds, x5, hn, hsum, hk6, hcap, hk4, hCg, hP, hO, rfl⟩ := hw
      have hgl : ∀ y ∈ left, Gs y := fun y hy => hx1 y (by rw [← hsum]; exact List.mem_append_right _ hy)
      have hl12 : left.length ≤ 12 := by have := congrArg List.length hsum; rw [List.length_append, hxl] at this; omega
      walk_at "go"
      refine g_ite (fun hb => ?_) (fun hb => ?_)
      · have hpos : 1 ≤ left.length := by
          cases left with
          | nil => simp at hb
          | cons a l => simp
        walk_at "go"
        rw [List.length_map]
        have emo : ∃ mo : Nat, 1 ≤ mo ∧ mo ≤ 6 ∧ mo ≤ left.length ∧ (if (left.length : Int) < 6 then (left.length : Int) else 6) = (mo : Int) := by
          refine ⟨min 6 left.length, by omega, by omega, by omega, ?_⟩
          split <;> omega
        obtain ⟨mo, hmo1, hmo6, hmol, emo⟩ := emo
        rw [emo]
        refine take_nat hP (by omega) (by omega) fun c d hc hd => ?_
        have hP3 := pen_put (C := C') (p := p) hc
        have hCg3 := put_other (d := c) hpg.symm hCg
        have hO3 := hO.pen (c := c)
        generalize put C' p c = C3 at hP3 hCg3 hO3 ⊢
        walk_at "go"
        rw [List.length_map, List.length_map]
        have esz : ∃ sz : Nat, 1 ≤ sz ∧ sz ≤ 6 ∧ sz ≤ left.length ∧ left.length ≤ sz + 6 * (3 - kinds.length) ∧ (if (left.length : Int) - 6 * (3 - (kinds.length : Int)) > 1 + (d : Int) then (left.length : Int) - 6 * (3 - (kinds.length : Int)) else 1 + (d : Int)) = (sz : Int) := by
          refine ⟨(max ((left.length : Int) - 6 * (3 - (kinds.length : Int))) (1 + (d : Int))).toNat, by omega, by omega, by omega, by omega, ?_⟩
          split <;> omega
        obtain ⟨sz, hsz1, hsz6, hszl, hszc, esz⟩ := esz
        rw [esz]
        walk_at "go"
        refine g_cutTake ?_
        walk_at "go"
        rw [show (strsL left).take sz = strsL (left.take sz) from (List.map_take ..).symm]
        have htake : ∀ y ∈ left.take sz, Gs y := fun y hy => hgl y (List.mem_of_mem_take hy)
        have htl : (left.take sz).length = sz := by rw [List.length_take]; omega
        refine g_joinE (by rw [gs_len htake]; omega) ?_
        have hjl : (Txt.join "" (left.take sz)).length = sz := by rw [join_len, gs_len htake, htl]
        have hjc := chars_join htake
        generalize Txt.join "" (left.take sz) = kd at hjl hjc
        walk_at "go"
        refine g_append hCg3 ?_ ?_
        · simp only [List.length_map, sizeLine]; omega
        walk_at "go"
        refine g_cutDrop ?_
        walk_at "go"
        rw [show (strsL left).drop sz = strsL (left.drop sz) from (List.map_drop ..).symm]
        refine ⟨n - sz, by omega, left.drop sz, kinds ++ [kd], some (.int sz), by rw [List.length_drop]; omega, ?_, ?_, ?_, ?_, ?_, hP3.other hpg, hO3.put hg0, rfl⟩
        · rw [List.map_append, List.flatten_append]
          simp only [List.map_cons, List.map_nil, List.flatten_cons, List.flatten_nil, List.append_nil]
          rw [hjc, List.append_assoc, List.take_append_drop, hsum]
        · intro y hy
          rcases List.mem_append.mp hy with h | h
          · exact hk6 y h
          · rw [List.mem_singleton.mp h]; omega
        · rw [List.length_append, List.length_drop, List.length_singleton]; omega
        · rw [List.length_append, List.length_singleton]; omega
        · rw [put_same]
          simp [strsL]
      · have h0 : left = [] := by
          cases left with
          | nil => rfl
          | cons a l => simp at hb
        subst h0
        rw [List.append_nil] at hsum
        walk_at "go"
        have hlen := congrArg List.length hsum
        refine k kinds _ ⟨?_, hk4, fun y hy => (hk6 y hy).1, by omega, by rw [hsum]; exact hnd, fun y hy => ?_, fun y hy => (hk6 y hy).2, fun y hy => ?_⟩ (hP.otherD hpg) (hO.del hg0)
        · cases kinds with
          | nil => simp at hlen; omega
          | cons a l => simp
        · rw [hsum] at hy
          obtain ⟨c, hc, e⟩ := hx1 y hy
          exact ⟨c, (goodB_lt hc).2, e⟩
        · rw [hsum] at hy
          exact hx1 y hy
end A_k56

namespace A_k56
open PySem L2 AL
def tgD (tg : List Str) : Bool := decide (1 ≤ tg.length) && decide (tg.length ≤ 4) && tg.all (fun y => decide (1 ≤ y.length) && decide (y.length ≤ 6)) && decide (((tg.map chars).flatten).length ≤ 12) && decide ((tg.map chars).flatten).Nodup && tg.all fun y => y.cps.toList.all goodB
theorem tng_lit {tg : List Str} (h : tgD tg = true) : Tongue tg := by
  simp only [tgD, Bool.and_eq_true, decide_eq_true_eq, List.all_eq_true] at h
  obtain ⟨⟨⟨⟨⟨h1, h2⟩, h3⟩, h4⟩, h5⟩, h6⟩ := h
  have hg : ∀ y ∈ (tg.map chars).flatten, ∃ c : Nat, goodB c = true ∧ y = ⟨#[c]⟩ := fun y hy => by
    obtain ⟨l, hl, hy⟩ := List.mem_flatten.mp hy
    obtain ⟨z, hz, rfl⟩ := List.mem_map.mp hl
    obtain ⟨c, hc, rfl⟩ := List.mem_map.mp hy
    exact ⟨c, h6 z hz c hc, rfl⟩
  exact ⟨h1, h2, fun y hy => (h3 y hy).1, h4, h5, fun y hy => by obtain ⟨c, hc, e⟩ := hg y hy; exact ⟨c, (goodB_lt hc).2, e⟩, fun y hy => (h3 y hy).2, hg⟩
def anyT : List (List Str) := [["-"], ["0", "1", "-"], ["long", "-01"], ["ends", "012", "-"], ["not", "hbi", "0-e", "|"], ["1"], ["apr", "t-0123", "'\"\\"]]
theorem anyT_ok : (anyT.all tgD) = true := by decide +kernel
theorem any_tongue_ok {p : Addr} {C : AH} {P : D → AH → Prop} (hp : Pen C p) (k : ∀ tg C', Tongue tg → Pen C' p → Oth p C C' → P (.tup (strsL tg)) C') : s_law_any_tongue [.ce p] C P := by
  unfold s_law_any_tongue a_law_any_tongue
  walk_at "go"
  intro q hq
  have hpq : p ≠ q := by obtain ⟨_, h, _⟩ := hp; exact ne_cell h hq
  walk_at "go"
  refine g_append put_same (by simp only [List.length_cons, List.length_nil, sizeLine]; omega) ?_
  rw [put_put]
  have hP := (hp.other (c := .lst (anyT.map fun tg => .tup (strsL tg))) hpq).otherD hpq
  change Pen (del (put C q (.lst (anyT.map fun tg => .tup (strsL tg)))) q) p at hP
  walk_at "go"
  generalize hC1 : del (put C q _) q = C1
  have hP1 : Pen C1 p := by rw [← hC1]; exact (hp.other hpq).otherD hpq
  have hO1 : Oth p C C1 := by rw [← hC1]; exact ((Oth.refl p C).put hq).del hq
  refine g_ifS ?_
  walk_at "go"
  refine take_nat (m := 4) hP1 (by omega) (by omega) fun c d hc hd => ?_
  walk_at "go"
  refine g_ite (fun h => ?_) (fun h => ?_)
  · walk_at "go"
    refine take_nat (m := 7) (pen_put hc) (by omega) (by omega) fun c d hc hd => ?_
    have : ∃ tg, tg ∈ anyT ∧ atI (anyT.map fun tg => D.tup (strsL tg)) (d : Int) = some (.tup (strsL tg)) := by
      have hd7 : d < anyT.length := hd
      exact ⟨anyT[d], List.getElem_mem hd7, atI_nat' (by rw [List.getElem?_map, List.getElem?_eq_getElem hd7]; rfl)⟩
    obtain ⟨tg, htg, hat⟩ := this
    refine g_ixL hat ?_
    refine k tg _ (tng_lit (List.all_eq_true.mp anyT_ok tg htg)) ?_ ?_
    · rw [put_put]
      exact pen_put hc
    · exact hO1.pen.pen
  · walk_at "go"
    refine take_nat (m := 12) (pen_put hc) (by omega) (by omega) fun c e hc he => ?_
    walk_at "go"
    refine take_nat (m := 8) (pen_put hc) (by omega) (by omega) fun c d hc hd => ?_
    have : ∃ n : Nat, 1 ≤ n ∧ n ≤ 12 ∧ atI [D.int 2, D.int 3, D.int 4, D.int 1, D.int 6, D.int 12, D.int 5, D.int (1 + (e : Int))] (d : Int) = some (.int n) := by
      have : d = 0 ∨ d = 1 ∨ d = 2 ∨ d = 3 ∨ d = 4 ∨ d = 5 ∨ d = 6 ∨ d = 7 := by omega
      rcases this with rfl | rfl | rfl | rfl | rfl | rfl | rfl | rfl
      · exact ⟨2, by omega, by omega, rfl⟩
      · exact ⟨3, by omega, by omega, rfl⟩
      · exact ⟨4, by omega, by omega, rfl⟩
      · exact ⟨1, by omega, by omega, rfl⟩
      · exact ⟨6, by omega, by omega, rfl⟩
      · exact ⟨12, by omega, by omega, rfl⟩
      · exact ⟨5, by omega, by omega, rfl⟩
      · exact ⟨1 + e, by omega, by omega, congrArg (fun z => some (D.int z)) (by omega)⟩
    obtain ⟨n, hn1, hn2, hat⟩ := this
    refine g_ixL hat ?_
    walk_at "go"
    exact tongue_ok (pen_put hc) hn1 hn2 fun tg C' h1 h2 h3 => k tg C' h1 h2 (hO1.pen.pen.pen.trans h3)
end A_k56

namespace A_k56
open PySem L2 AL
/-! ### what a sentence is, in plain words -/
def Zs (tg : List Str) : List Nat := (Txt.join "" tg).cps.toList
def within (d : D) (lo hi : Int) : Bool := match d with | .int i => decide (lo ≤ i) && decide (i ≤ hi) | _ => false
def piece (zs : List Nat) (d : D) (m : Nat) : Bool := match d with | .str z => decide (1 ≤ z.length) && decide (z.length ≤ m) && z.cps.toList.all (fun c => decide (c ∈ zs)) | _ => false
def unlk (d : D) : Bool := match d with | .str z => decide z.cps.toList.Nodup | _ => false
def upB (a b : D) : Bool := match a with | .int i => within b i 30 | _ => false
def longB (r : List D) : Bool := match r with | [a, b] => within a 0 30 && (isNon b || upB a b) | _ => false
def leastB (n : Nat) (r : List D) : Bool := match r with | [a, b] => within a 0 ((n : Int) - 1) && within b 0 9 | _ => false
def oftenB (zs : List Nat) (r : List D) : Bool := match r with | [a, b] => piece zs a 4 && within b 0 3 && unlk a | _ => false
def oneB (zs : List Nat) (r : List D) : Bool := match r with | [a] => piece zs a 6 | _ => false
def plainB (tg : List Str) (w : Str) (r : List D) : Bool :=
  if w = "long" then longB r else if w = "least" then leastB tg.length r else if w = "often" then oftenB (Zs tg) r else if w = "apart" then r.isEmpty else if w = "without" ∨ w = "begins" ∨ w = "ends" then oneB (Zs tg) r else false
inductive Kd where
  | bad | leaf | one (x : D) | two (x y : D)
def Kd.ok : Kd → Bool
  | .bad => false
  | _ => true
def Kd.kids : Kd → List D
  | .one x => [x]
  | .two x y => [x, y]
  | _ => []
def clsW (tg : List Str) (w : Str) (r : List D) : Kd :=
  if w = "not" then (match r with | [x] => .one x | _ => .bad) else if w = "both" ∨ w = "either" then (match r with | [x, y] => .two x y | _ => .bad) else if plainB tg w r = true then .leaf else .bad
def cls (tg : List Str) (d : D) : Kd := match d with | .tup (.str w :: r) => clsW tg w r | _ => .bad
def sz (tg : List Str) : Nat → D → Nat
  | 0, _ => 1000
  | k + 1, d => match cls tg d with | .bad => 1000 | .leaf => 1 | .one x => 1 + sz tg k x | .two x y => 1 + sz tg k x + sz tg k y
def szs (tg : List Str) (k : Nat) (L : List D) : Nat := (L.map (sz tg k)).sum
def kidsL (tg : List Str) (L : List D) : List D := (L.map fun d => (cls tg d).kids).flatten
def bfs (tg : List Str) : Nat → Nat → List D → Bool
  | 0, _, L => L.isEmpty
  | k + 1, m, L => if 9 < m + L.length ∨ (L.all fun d => (cls tg d).ok) = false then false else bfs tg k (m + L.length) (kidsL tg L)
theorem szs_bad {tg : List Str} {k : Nat} : ∀ {L : List D}, (L.all fun d => (cls tg d).ok) = false → 1000 ≤ szs tg (k + 1) L
  | [], h => by cases h
  | d :: L, h => by
    unfold szs
    rw [List.map_cons, List.sum_cons]
    cases e : (cls tg d).ok with
    | false =>
      have : cls tg d = .bad := by cases q : cls tg d <;> rw [q] at e <;> first | rfl | cases e
      have : sz tg (k + 1) d = 1000 := by unfold sz; rw [this]
      omega
    | true =>
      have := szs_bad (tg := tg) (k := k) (L := L) (by rw [List.all_cons, e, Bool.true_and] at h; exact h)
      unfold szs at this
      omega
theorem szs_ok {tg : List Str} {k : Nat} : ∀ {L : List D}, (L.all fun d => (cls tg d).ok) = true → szs tg (k + 1) L = L.length + szs tg k (kidsL tg L)
  | [], _ => rfl
  | d :: L, h => by
    rw [List.all_cons, Bool.and_eq_true] at h
    have ih := szs_ok (tg := tg) (k := k) h.2
    unfold szs kidsL at *
    rw [List.map_cons, List.sum_cons, ih, List.map_cons, List.flatten_cons, List.map_append, List.sum_append, List.length_cons]
    have : sz tg (k + 1) d = 1 + ((cls tg d).kids.map (sz tg k)).sum := by
      unfold sz
      cases q : cls tg d with
      | bad => rw [q] at h; cases h.1
      | leaf => rfl
      | one x => simp [Kd.kids]
      | two x y => simp [Kd.kids]; omega
    omega
theorem bfs_sz {tg : List Str} : ∀ (k m : Nat) (L : List D), m ≤ 9 → bfs tg k m L = decide (m + szs tg k L ≤ 9)
  | 0, m, L, hm => by
    unfold bfs szs
    cases L with
    | nil => simp [hm]
    | cons d L =>
      rw [List.map_cons, List.sum_cons]
      have : sz tg 0 d = 1000 := rfl
      rw [this]
      symm
      rw [List.isEmpty_cons]
      exact decide_eq_false (by omega)
  | k + 1, m, L, hm => by
    unfold bfs
    cases q : L.all fun d => (cls tg d).ok with
    | false =>
      rw [if_pos (.inr rfl)]
      have := szs_bad (k := k) q
      exact (decide_eq_false (by omega)).symm
    | true =>
      rw [szs_ok q]
      by_cases h : 9 < m + L.length
      · rw [if_pos (.inl h)]
        exact (decide_eq_false (by omega)).symm
      · rw [if_neg (by simp [h]), bfs_sz k _ _ (by omega), Nat.add_assoc]
end A_k56

namespace A_k56
open PySem L2 AL
section
variable {C : AH} {P : D → AH → Prop}
theorem kd_int {d : D} {n : Nat} (h : okR d n = true) : (∃ i, d = .int i) ∨ (∃ t, kindOf C d = some t ∧ (isT "int" t = false ∨ isT "bool" t = true) ∧ ∀ lo hi, within d lo hi = false) := by
  cases d with
  | int i => exact .inl ⟨i, rfl⟩
  | scr _ => simp [okR] at h
  | ce _ => simp [okR] at h
  | bl b => exact .inr ⟨_, rfl, .inr rfl, fun _ _ => rfl⟩
  | _ => exact .inr ⟨_, rfl, .inl rfl, fun _ _ => rfl⟩
theorem kd_str {d : D} {n : Nat} (h : okR d n = true) : (∃ z, d = .str z) ∨ (∃ t, kindOf C d = some t ∧ isT "str" t = false ∧ ∀ zs m, piece zs d m = false) := by
  cases d with
  | str i => exact .inl ⟨i, rfl⟩
  | scr _ => simp [okR] at h
  | ce _ => simp [okR] at h
  | _ => exact .inr ⟨_, rfl, rfl, fun _ _ => rfl⟩
theorem kd_tup {d : D} {n : Nat} (h : okR d n = true) : (∃ z, d = .tup z) ∨ (∃ t, kindOf C d = some t ∧ isT "tuple" t = false ∧ ∀ tg, cls tg d = .bad) := by
  cases d with
  | tup i => exact .inl ⟨i, rfl⟩
  | scr _ => simp [okR] at h
  | ce _ => simp [okR] at h
  | _ => exact .inr ⟨_, rfl, rfl, fun _ => rfl⟩
theorem within_ok {d : D} {n : Nat} {lo hi : Int} (h : okR d n = true) (k : P (.bl (within d lo hi)) C) : s_is_within [d, .int lo, .int hi] C P := by
  unfold s_is_within a_is_within
  walk_at "go"
  unfold s_is_whole a_is_whole
  rcases kd_int (C := C) h with ⟨i, rfl⟩ | ⟨t, h1, h2, h3⟩
  · walk_at "go"
    rw [show isT "int" "int" = true from rfl]
    refine g_kAnd (fun _ => ?_) (fun h => by cases h)
    walk_at "go"
    rw [show isT "bool" "int" = false from rfl]
    walk_at "go"
    refine g_kAnd (fun _ => ?_) (fun h => by cases h)
    walk_at "go"
    refine g_kChain (fun e => ?_) (fun e => ?_)
    · rw [show within (D.int i) lo hi = (decide (lo ≤ i) && decide (i ≤ hi)) from rfl, e, Bool.true_and] at k
      walk_at "go"
      exact k
    · rw [show within (D.int i) lo hi = (decide (lo ≤ i) && decide (i ≤ hi)) from rfl, e, Bool.false_and] at k
      exact k
  · rw [h3] at k
    walk_at "go"
    refine g_kIsi h1 ?_
    cases q : isT "int" t with
    | false =>
      refine g_kAnd (fun h => by cases h) (fun _ => ?_)
      walk_at "go"
      refine g_kAnd (fun h => by cases h) (fun _ => ?_)
      exact k
    | true =>
      rcases h2 with h2 | h2
      · rw [h2] at q; cases q
      refine g_kAnd (fun _ => ?_) (fun h => by cases h)
      walk_at "go"
      refine g_kIsi h1 ?_
      rw [h2]
      walk_at "go"
      refine g_kAnd (fun h => by cases h) (fun _ => ?_)
      exact k
theorem len_toList (z : Str) : z.cps.toList.length = z.length := by rw [Array.length_toList]; rfl
theorem blsD_map (f : Nat → Bool) : ∀ l : List Nat, blsD (l.map fun c => D.bl (f c)) = some (l.map f)
  | [] => rfl
  | a :: l => by
    show (blsD (l.map fun c => D.bl (f c))).map (f a :: ·) = _
    rw [blsD_map f l]
    rfl
theorem in_one (c : Nat) (z : Str) : (!(Builtin.Str.occurrences z ⟨#[c]⟩ 0 z.length 1).isEmpty) = decide (c ∈ z.cps.toList) := PySem.StrLaws.found_one ..
theorem join_small {tg : List Str} (h : Tongue tg) : (tg.map (·.length)).sum ≤ 12 := by
  have h1 := h.size
  rw [List.length_flatten, List.map_map] at h1
  have e : tg.map (List.length ∘ chars) = tg.map (·.length) := List.map_congr_left fun y _ => by
    show (chars y).length = y.length
    exact chars_len y
  rw [e] at h1
  exact h1
theorem joinS {tg : List Str} (h : Tongue tg) (k : P (.str (Txt.join "" tg)) C) : aJoin (.str "") [.tup (strsL tg)] C P := by
  have := join_small h
  exact g_joinET (by omega) k
theorem signs_of_ok {tg : List Str} (h : Tongue tg) (k : P (.str (Txt.join "" tg)) C) : s_signs_of [.tup (strsL tg)] C P := by
  unfold s_signs_of a_signs_of
  walk_at "go"
  exact joinS h k
theorem has_ok {tg : List Str} (h : Tongue tg) {z : Str} (hz : z.length ≤ 8000) (k : P (.bl (z.cps.toList.all fun c => decide (c ∈ Zs tg))) C) : s_has_signs [.tup (strsL tg), .str z] C P := by
  unfold s_has_signs a_has_signs
  walk_at "go"
  refine signs_of_ok h ?_
  walk_at "go"
  refine g_kLcMap (fun d => match d with | .str y => .bl (decide (y.cps.getD 0 0 ∈ Zs tg)) | d => d) ?_ (fun d hd R hR => ?_) ?_
  · unfold signs; rw [List.length_map, len_toList]; simp only [sizeLine]; omega
  · obtain ⟨c, hc, rfl⟩ := List.mem_map.mp (show d ∈ z.cps.toList.map fun c => D.str ⟨#[c]⟩ from hd)
    walk_at "go"
    refine g_inS ?_
    rw [in_one]
    exact hR
  have e2 : (signs z).map (fun d => match d with | .str y => .bl (decide (y.cps.getD 0 0 ∈ Zs tg)) | d => d) = z.cps.toList.map fun c => D.bl (decide (c ∈ Zs tg)) := by
    unfold signs
    rw [List.map_map]
    rfl
  rw [e2]
  walk_at "go"
  refine g_all (blsD_map _ _) ?_
  rw [List.all_map]
  exact k
theorem piece_ok {tg : List Str} (h : Tongue tg) {d : D} {n m : Nat} (hd : okR d n = true) (hb : blk d ≤ 8000) (k : P (.bl (piece (Zs tg) d m)) C) : s_is_piece [.tup (strsL tg), d, .int m] C P := by
  unfold s_is_piece a_is_piece
  rcases kd_str (C := C) hd with ⟨z, rfl⟩ | ⟨t, h1, h2, h3⟩
  · have hz : z.length ≤ 8000 := by simpa [blk] using hb
    walk_at "go"
    rw [show isT "str" "str" = true from rfl]
    refine g_kAnd (fun _ => ?_) (fun h => by cases h)
    walk_at "go"
    refine g_lenS (by simp only [sizeLine]; omega) ?_
    walk_at "go"
    have e0 : piece (Zs tg) (.str z) m = (decide (1 ≤ z.length) && decide (z.length ≤ m) && z.cps.toList.all (fun c => decide (c ∈ Zs tg))) := rfl
    rw [e0] at k
    refine g_kChain (fun e => ?_) (fun e => ?_)
    · rw [show decide (1 ≤ z.length) = true from decide_eq_true (by have := of_decide_eq_true e; omega), Bool.true_and] at k
      walk_at "go"
      refine g_kAnd (fun e => ?_) (fun e => ?_)
      · rw [show decide (z.length ≤ m) = true from decide_eq_true (by have := of_decide_eq_true e; omega), Bool.true_and] at k
        walk_at "go"
        exact has_ok h hz k
      · rw [show decide (z.length ≤ m) = false from decide_eq_false (by have := of_decide_eq_false e; omega), Bool.false_and] at k
        exact k
    · rw [show decide (1 ≤ z.length) = false from decide_eq_false (by have := of_decide_eq_false e; omega), Bool.false_and, Bool.false_and] at k
      exact k
  · walk_at "go"
    refine g_kIsi h1 ?_
    rw [h2]
    rw [h3] at k
    refine g_kAnd (fun e => by cases e) (fun _ => ?_)
    exact k
end
end A_k56

namespace A_k56
open PySem L2 AL
theorem tab_some {w : Str} {l : Int} (h : tabAt tab_LENGTHS w = some l) : (w = "long" ∧ l = 3) ∨ (w = "least" ∧ l = 3) ∨ (w = "often" ∧ l = 3) ∨ (w = "apart" ∧ l = 1) ∨ (w = "without" ∧ l = 2) ∨ (w = "begins" ∧ l = 2) ∨ (w = "ends" ∧ l = 2) ∨ (w = "not" ∧ l = 2) ∨ (w = "both" ∧ l = 3) ∨ (w = "either" ∧ l = 3) := by
  unfold tab_LENGTHS at h
  simp only [tabAt] at h
  repeat' split at h
  all_goals first | (rename_i e; cases h; subst e; simp) | cases h
theorem cls_len {tg : List Str} {w : Str} {r : List D} (h : (clsW tg w r).ok = true) : tabAt tab_LENGTHS w = some ((r.length : Nat) + 1 : Int) := by
  unfold clsW at h
  split at h
  · rename_i e; subst e
    split at h
    · rfl
    · cases h
  · split at h
    · rename_i e
      split at h
      · rcases e with e | e <;> subst e <;> rfl
      · cases h
    · split at h
      · rename_i hp
        unfold plainB at hp
        split at hp
        · rename_i e; subst e
          unfold longB at hp
          split at hp
          · rfl
          · cases hp
        · split at hp
          · rename_i e; subst e
            unfold leastB at hp
            split at hp
            · rfl
            · cases hp
          · split at hp
            · rename_i e; subst e
              unfold oftenB at hp
              split at hp
              · rfl
              · cases hp
            · split at hp
              · rename_i e; subst e
                rw [List.isEmpty_iff.mp hp]
                rfl
              · split at hp
                · rename_i e
                  unfold oneB at hp
                  split at hp
                  · rcases e with e | e | e <;> subst e <;> rfl
                  · cases hp
                · cases hp
      · cases h
theorem beq_swap (a w : Str) : (a == w) = decide (w = a) := by
  by_cases h : w = a
  · subst h; simp
  · rw [decide_eq_false h]
    exact beq_eq_false_iff_ne.mpr (Ne.symm h)
theorem in3 (w a b c : Str) : inV (.str w) [.str a, .str b, .str c] = (decide (w = a) || (decide (w = b) || decide (w = c))) := by
  simp only [inV, eqV, List.any_cons, List.any_nil, Bool.or_false, beq_swap]
theorem in2 (w a b : Str) : inV (.str w) [.str a, .str b] = (decide (w = a) || decide (w = b)) := by
  simp only [inV, eqV, List.any_cons, List.any_nil, Bool.or_false, beq_swap]
theorem clsW_plain {tg : List Str} {w : Str} {r : List D} (a : w ≠ "not") (b : w ≠ "both") (c : w ≠ "either") : (clsW tg w r).ok = plainB tg w r := by
  unfold clsW
  rw [if_neg a, if_neg (by simp [b, c])]
  cases plainB tg w r <;> rfl
theorem plain_long {tg : List Str} {r : List D} : plainB tg "long" r = longB r := by unfold plainB; rw [if_pos rfl]
theorem plain_least {tg : List Str} {r : List D} : plainB tg "least" r = leastB tg.length r := by unfold plainB; rw [if_neg (show ¬ ("least" : Str) = "long" by decide +kernel), if_pos rfl]
theorem plain_often {tg : List Str} {r : List D} : plainB tg "often" r = oftenB (Zs tg) r := by unfold plainB; rw [if_neg (show ¬ ("often" : Str) = "long" by decide +kernel), if_neg (show ¬ ("often" : Str) = "least" by decide +kernel), if_pos rfl]
theorem plain_apart {tg : List Str} {r : List D} : plainB tg "apart" r = r.isEmpty := by unfold plainB; rw [if_neg (show ¬ ("apart" : Str) = "long" by decide +kernel), if_neg (show ¬ ("apart" : Str) = "least" by decide +kernel), if_neg (show ¬ ("apart" : Str) = "often" by decide +kernel), if_pos rfl]
theorem plain_rest {tg : List Str} {w : Str} {r : List D} (n1 : ¬ w = "long") (n2 : ¬ w = "least") (n3 : ¬ w = "often") (n4 : ¬ w = "apart") : plainB tg w r = ((decide (w = "without") || (decide (w = "begins") || decide (w = "ends"))) && oneB (Zs tg) r) := by
  unfold plainB
  rw [if_neg n1, if_neg n2, if_neg n3, if_neg n4]
  by_cases h : w = "without" ∨ w = "begins" ∨ w = "ends"
  · rw [if_pos h, show (decide (w = "without") || (decide (w = "begins") || decide (w = "ends"))) = true by simpa using h, Bool.true_and]
  · rw [if_neg h, show (decide (w = "without") || (decide (w = "begins") || decide (w = "ends"))) = false by simpa using h, Bool.false_and]
theorem dd_iff : ∀ (xs σ : List Str), (xs.foldl ddS σ).length = σ.length + xs.length ↔ xs.Nodup ∧ ∀ x ∈ xs, x ∉ σ
  | [], σ => by simp
  | x :: xs, σ => by
    rw [List.foldl_cons, List.length_cons]
    by_cases h : x ∈ σ
    · have e : ddS σ x = σ := by unfold ddS; rw [if_pos (by simpa using h)]
      rw [e]
      have := foldl_le xs σ
      refine ⟨fun q => by omega, fun q => absurd h (q.2 x List.mem_cons_self)⟩
    · have e : ddS σ x = σ ++ [x] := by unfold ddS; rw [if_neg (by simpa using h)]
      rw [e]
      have ih := dd_iff xs (σ ++ [x])
      rw [List.length_append, List.length_singleton] at ih
      rw [show σ.length + (xs.length + 1) = σ.length + 1 + xs.length by omega, ih, List.nodup_cons]
      refine ⟨fun q => ⟨⟨fun hx => q.2 x hx (by simp), q.1⟩, fun y hy => ?_⟩, fun q => ⟨q.1.2, fun y hy => ?_⟩⟩
      · rcases List.mem_cons.mp hy with rfl | hy
        · exact h
        · exact fun hs => q.2 y hy (by simp [hs])
      · have := q.2 y (List.mem_cons_of_mem _ hy)
        simp only [List.mem_append, List.mem_singleton, not_or]
        exact ⟨this, fun z => q.1.1 (z ▸ hy)⟩
theorem sgS_nodup (z : Str) : (sgS z).Nodup ↔ z.cps.toList.Nodup := by
  unfold sgS List.Nodup
  rw [List.pairwise_map]
  refine ⟨fun h => h.imp fun {a b} q e => q (by rw [e]), fun h => h.imp fun {a b} q e => q ?_⟩
  injection e with e
  have := congrArg Array.toList e
  simpa using this
theorem lenset {z : Str} : decide (((dd (sgS z)).length : Int) = (z.length : Int)) = decide z.cps.toList.Nodup := by
  have h := dd_iff (sgS z) []
  rw [List.length_nil, Nat.zero_add, sgS_len, sgS_nodup] at h
  refine decide_eq_decide.mpr ⟨fun e => (h.mp (by unfold dd at e; omega)).1, fun e => ?_⟩
  have := h.mpr ⟨e, by simp⟩
  unfold dd
  omega
section
variable {C : AH} {P : D → AH → Prop}
theorem fits_ok {tg : List Str} (h : Tongue tg) {w : Str} {r : List D} {n : Nat} (hr : okRs r n = true) (hb : blks r ≤ 8000) (hw : tabAt tab_LENGTHS w = some ((r.length : Nat) + 1 : Int)) (k : P (.bl (clsW tg w r).ok) C) : s_fits [.tup (strsL tg), .tup (.str w :: r)] C P := by
  have hm := h.most
  have hp := h.pos
  have hk : ∀ d ∈ r, okR d n = true ∧ blk d ≤ 8000 := fun d hd => ⟨okRs_all.mp hr d hd, Nat.le_trans (by
    clear hw k
    induction r with
    | nil => cases hd
    | cons e r ih =>
      rcases List.mem_cons.mp hd with rfl | hd
      · simp only [blks]; omega
      · have := ih (by simp only [okRs, Bool.and_eq_true] at hr; exact hr.2) (by simp only [blks] at hb; omega) hd
        simp only [blks]; omega) hb⟩
  have hl := tab_some hw
  unfold s_fits a_fits
  walk_at "go"
  refine g_ifS ?_
  walk_at "go"
  refine g_iteD (fun e => ?_) (fun n1 => ?_)
  · subst e
    have hr2 : r.length = 2 := by rcases hl with ⟨a, b⟩ | ⟨a, b⟩ | ⟨a, b⟩ | ⟨a, b⟩ | ⟨a, b⟩ | ⟨a, b⟩ | ⟨a, b⟩ | ⟨a, b⟩ | ⟨a, b⟩ | ⟨a, b⟩ <;> first | omega | (exfalso; revert a; decide +kernel)
    obtain ⟨a, b, rfl⟩ : ∃ a b, r = [a, b] := by
      match r, hr2 with
      | [a, b], _ => exact ⟨a, b, rfl⟩
    rw [clsW_plain (by decide +kernel) (by decide +kernel) (by decide +kernel), plain_long] at k
    have eL : longB [a, b] = (within a 0 30 && (isNon b || upB a b)) := rfl
    have ha := hk a (by simp)
    have hb2 := hk b (by simp)
    refine g_ifJ (fun st C' => within a 0 30 = true ∧ C' = C ∧ st = [some (.tup (strsL tg)), some (.tup [.str "long", a, b]), some (.str "long")]) (fun N hN => ?_) (fun st C' hw => ?_)
    · refine g_ifS ?_
      walk_at "go"
      refine within_ok (lo := 0) (hi := 30) ha.1 ?_
      walk_at "go"
      cases q : within a 0 30 with
      | true =>
        walk_at "go"
        exact hN _ _ ⟨q, rfl, rfl⟩
      | false =>
        walk_at "go"
        rw [eL, q, Bool.false_and] at k
        exact k
    · obtain ⟨q, rfl, rfl⟩ := hw
      rw [eL, q, Bool.true_and] at k
      walk_at "go"
      refine g_kOr (fun e => ?_) (fun e => ?_)
      · rw [e, Bool.true_or] at k
        exact k
      · rw [e, Bool.false_or] at k
        walk_at "go"
        cases a with
        | int i => exact within_ok hb2.1 k
        | _ => cases q
  walk_at "go"
  refine g_ifS ?_
  walk_at "go"
  refine g_iteD (fun e => ?_) (fun n2 => ?_)
  · subst e
    have hr2 : r.length = 2 := by rcases hl with ⟨a, b⟩ | ⟨a, b⟩ | ⟨a, b⟩ | ⟨a, b⟩ | ⟨a, b⟩ | ⟨a, b⟩ | ⟨a, b⟩ | ⟨a, b⟩ | ⟨a, b⟩ | ⟨a, b⟩ <;> first | omega | (exfalso; revert a; decide +kernel)
    obtain ⟨a, b, rfl⟩ : ∃ a b, r = [a, b] := by
      match r, hr2 with
      | [a, b], _ => exact ⟨a, b, rfl⟩
    rw [clsW_plain (by decide +kernel) (by decide +kernel) (by decide +kernel), plain_least] at k
    have eL : leastB tg.length [a, b] = (within a 0 ((tg.length : Int) - 1) && within b 0 9) := rfl
    rw [eL] at k
    have ha := hk a (by simp)
    have hb2 := hk b (by simp)
    walk_at "go"
    rw [List.length_map]
    refine within_ok (lo := 0) ha.1 ?_
    refine g_kAnd (fun e => ?_) (fun e => ?_)
    · rw [e, Bool.true_and] at k
      walk_at "go"
      exact within_ok hb2.1 k
    · rw [e, Bool.false_and] at k
      exact k
  walk_at "go"
  refine g_ifS ?_
  walk_at "go"
  refine g_iteD (fun e => ?_) (fun n3 => ?_)
  · subst e
    have hr2 : r.length = 2 := by rcases hl with ⟨a, b⟩ | ⟨a, b⟩ | ⟨a, b⟩ | ⟨a, b⟩ | ⟨a, b⟩ | ⟨a, b⟩ | ⟨a, b⟩ | ⟨a, b⟩ | ⟨a, b⟩ | ⟨a, b⟩ <;> first | omega | (exfalso; revert a; decide +kernel)
    obtain ⟨a, b, rfl⟩ : ∃ a b, r = [a, b] := by
      match r, hr2 with
      | [a, b], _ => exact ⟨a, b, rfl⟩
    rw [clsW_plain (by decide +kernel) (by decide +kernel) (by decide +kernel), plain_often] at k
    have eL : oftenB (Zs tg) [a, b] = (piece (Zs tg) a 4 && within b 0 3 && unlk a) := rfl
    rw [eL] at k
    have ha := hk a (by simp)
    have hb2 := hk b (by simp)
    refine g_ifJ (fun st C' => piece (Zs tg) a 4 = true ∧ within b 0 3 = true ∧ C' = C ∧ st = [some (.tup (strsL tg)), some (.tup [.str "often", a, b]), some (.str "often")]) (fun N hN => ?_) (fun st C' hw => ?_)
    · refine g_ifS ?_
      walk_at "go"
      refine piece_ok (m := 4) h ha.1 ha.2 ?_
      walk_at "go"
      cases q : piece (Zs tg) a 4 with
      | true =>
        walk_at "go"
        refine within_ok hb2.1 ?_
        walk_at "go"
        cases q2 : within b 0 3 with
        | true =>
          walk_at "go"
          exact hN _ _ ⟨q, q2, rfl, rfl⟩
        | false =>
          walk_at "go"
          rw [q, q2] at k
          exact k
      | false =>
        walk_at "go"
        rw [q] at k
        exact k
    · obtain ⟨q, q2, rfl, rfl⟩ := hw
      rw [q, q2] at k
      walk_at "go"
      cases a with
      | str z =>
        have hz : z.length ≤ 4 := by
          have q : (decide (1 ≤ z.length) && decide (z.length ≤ 4) && z.cps.toList.all (fun c => decide (c ∈ Zs tg))) = true := q
          simp only [Bool.and_eq_true, decide_eq_true_eq] at q
          exact q.1.2
        refine g_kLenSet (by omega) ?_
        walk_at "go"
        refine g_lenS (by simp only [sizeLine]; omega) ?_
        walk_at "go"
        rw [lenset]
        exact k
      | _ => cases q
  walk_at "go"
  refine g_ifS ?_
  walk_at "go"
  refine g_in rfl rfl ?_
  rw [if_neg (by decide), in3]
  refine g_kB ?_
  refine g_ite (fun e => ?_) (fun e => ?_)
  · have hw3 : w = "without" ∨ w = "begins" ∨ w = "ends" := by simpa using e
    have n4 : ¬ w = "apart" := by rcases hw3 with z | z | z <;> subst z <;> decide +kernel
    have n5 : w ≠ "not" := by rcases hw3 with z | z | z <;> subst z <;> decide +kernel
    have n6 : w ≠ "both" := by rcases hw3 with z | z | z <;> subst z <;> decide +kernel
    have n7 : w ≠ "either" := by rcases hw3 with z | z | z <;> subst z <;> decide +kernel
    have hr1 : r.length = 1 := by
      rcases hl with ⟨a, b⟩ | ⟨a, b⟩ | ⟨a, b⟩ | ⟨a, b⟩ | ⟨a, b⟩ | ⟨a, b⟩ | ⟨a, b⟩ | ⟨a, b⟩ | ⟨a, b⟩ | ⟨a, b⟩ <;> first | omega | contradiction
    obtain ⟨a, rfl⟩ : ∃ a, r = [a] := by
      match r, hr1 with
      | [a], _ => exact ⟨a, rfl⟩
    rw [clsW_plain n5 n6 n7, plain_rest n1 n2 n3 n4, e, Bool.true_and] at k
    have ha := hk a (by simp)
    walk_at "go"
    exact piece_ok (m := 6) h ha.1 ha.2 k
  · have e2 : (clsW tg w r).ok = true := by
      rcases hl with ⟨a, b⟩ | ⟨a, b⟩ | ⟨a, b⟩ | ⟨a, b⟩ | ⟨a, b⟩ | ⟨a, b⟩ | ⟨a, b⟩ | ⟨a, b⟩ | ⟨a, b⟩ | ⟨a, b⟩
      · exact absurd a n1
      · exact absurd a n2
      · exact absurd a n3
      · subst a
        have : r = [] := List.eq_nil_of_length_eq_zero (by omega)
        subst this
        rw [clsW_plain (by decide +kernel) (by decide +kernel) (by decide +kernel), plain_apart]
        rfl
      · simp [a] at e
      · simp [a] at e
      · simp [a] at e
      · subst a
        match r, (show r.length = 1 by omega) with
        | [a], _ => rfl
      · subst a
        match r, (show r.length = 2 by omega) with
        | [a, b], _ => rfl
      · subst a
        match r, (show r.length = 2 by omega) with
        | [a, b], _ => rfl
    rw [e2] at k
    walk_at "go"
    exact k
theorem formed_ok {tg : List Str} (h : Tongue tg) {d : D} {n : Nat} (hd : okR d n = true) (hb : blk d ≤ 8000) (k : P (.bl (cls tg d).ok) C) : s_is_formed [.tup (strsL tg), d] C P := by
  unfold s_is_formed a_is_formed
  have no : ∀ {K : Bool → AH → Prop}, K true C → K true C := fun h => h
  rcases kd_tup (C := C) hd with ⟨ds, rfl⟩ | ⟨t, h1, h2, h3⟩
  rotate_left
  · rw [h3 tg] at k
    walk_at "go"
    refine g_ifT (fun K hK => ?_) ?_
    · refine g_or (g_not (g_tru (g_isi (g_var rfl (g_kIsi h1 ?_)))))
      rw [h2]
      walk_at "go"
      exact hK
    walk_at "go"
    exact k
  match ds, hd, hb, k with
  | [], hd, hb, k =>
    walk_at "go"
    refine g_ifT (fun K hK => ?_) ?_
    · walk_at "go"
      rw [show isT "tuple" "tuple" = true from rfl]
      walk_at "go"
      exact hK
    walk_at "go"
    exact k
  | x :: r, hd, hb, k =>
    cases n with
    | zero => simp [okR] at hd
    | succ n =>
    have hd2 : okR x n = true ∧ okRs r n = true := by simpa [okR, okRs] using hd
    have hb2 : blk x + 1 + blks r ≤ 8000 := by simpa [blk, blks] using hb
    rcases kd_str (C := C) hd2.1 with ⟨w, rfl⟩ | ⟨t, h1, h2, h3⟩
    · walk_at "go"
      refine g_ifF (fun K hK => ?_) ?_
      · walk_at "go"
        rw [show isT "tuple" "tuple" = true from rfl]
        walk_at "go"
        rw [decide_eq_false (show ¬ (((D.str w :: r).length : Nat) : Int) = 0 by rw [List.length_cons]; omega)]
        walk_at "go"
        rw [show isT "str" "str" = true from rfl]
        walk_at "go"
        exact hK
      walk_at "go"
      have kf : (∀ l, tabAt tab_LENGTHS w = some l → ¬ l = ((r.length : Nat) + 1 : Int)) → P (.bl false) C := fun hn => by
        have : (cls tg (.tup (.str w :: r))).ok = false := by
          cases q : (clsW tg w r).ok with
          | false => exact q
          | true => exact absurd rfl (hn _ (cls_len q))
        rw [this] at k
        exact k
      cases hl : tabAt tab_LENGTHS w with
      | none =>
        refine g_kAnd (fun e => by cases e) (fun _ => ?_)
        exact kf fun l hl2 => by rw [hl] at hl2; cases hl2
      | some l =>
        refine g_kAnd (fun e => ?_) (fun e => by cases e)
        walk_at "go"
        refine g_kIxTab hl ?_
        walk_at "go"
        rw [List.length_cons]
        by_cases e : (((r.length + 1 : Nat) : Int)) = l
        · rw [decide_eq_true e]
          refine g_kAnd (fun _ => ?_) (fun e => by cases e)
          walk_at "go"
          exact fits_ok h hd2.2 (by omega) (by rw [hl, ← e]; rfl) k
        · rw [decide_eq_false e]
          refine g_kAnd (fun e => by cases e) (fun _ => ?_)
          exact kf fun l2 hl2 z => e (by rw [hl] at hl2; cases hl2; omega)
    · have e2 : cls tg (.tup (x :: r)) = .bad := by
        unfold cls
        cases x <;> first | rfl | (exfalso; cases h1; cases h2)
      rw [e2] at k
      walk_at "go"
      refine g_ifT (fun K hK => ?_) ?_
      · walk_at "go"
        rw [show isT "tuple" "tuple" = true from rfl]
        walk_at "go"
        rw [decide_eq_false (show ¬ (((x :: r).length : Nat) : Int) = 0 by rw [List.length_cons]; omega)]
        walk_at "go"
        refine g_kIsi h1 ?_
        rw [h2]
        walk_at "go"
        exact hK
      walk_at "go"
      exact k
end
end A_k56

namespace A_k56
open PySem L2 AL
section
variable {C : AH} {P : D → AH → Prop}
theorem g_cutDropT {us : List D} {j : Nat} (h0 : P (.tup (us.drop j)) C) : aCut (.tup us) (some (j : Int)) none C P := by
  show P (.tup (cutD us (some (j : Int)) none)) C
  rw [cutD_drop]; exact h0
theorem cls_tup {tg : List Str} {d : D} (h : (cls tg d).ok = true) : ∃ w r, d = .tup (.str w :: r) ∧ (clsW tg w r).ok = true ∧ (if w = "not" ∨ w = "both" ∨ w = "either" then (clsW tg w r).kids = r else (clsW tg w r).kids = []) := by
  unfold cls at h
  split at h
  · rename_i w r
    refine ⟨w, r, rfl, h, ?_⟩
    by_cases h1 : w = "not"
    · rw [if_pos (.inl h1)]
      subst h1
      match r, h with
      | [a], _ => rfl
    · by_cases h2 : w = "both" ∨ w = "either"
      · rw [if_pos (.inr h2)]
        unfold clsW at h ⊢
        rw [if_neg h1, if_pos h2] at h ⊢
        match r, h with
        | [a, b], _ => rfl
      · rw [if_neg (by simp only [not_or] at h2 ⊢; exact ⟨h1, h2⟩)]
        unfold clsW at h ⊢
        rw [if_neg h1, if_neg h2]
        split <;> rfl
  · cases h
theorem parts_ok {tg : List Str} {d : D} (h : (cls tg d).ok = true) (k : P (.lst (cls tg d).kids) C) : s_parts_of [d] C P := by
  obtain ⟨w, r, rfl, h1, h2⟩ := cls_tup h
  change P (.lst (clsW tg w r).kids) C at k
  unfold s_parts_of a_parts_of
  walk_at "go"
  refine g_ifS ?_
  walk_at "go"
  refine g_in rfl rfl ?_
  rw [if_neg (by decide), in3]
  refine g_kB ?_
  refine g_ite (fun e => ?_) (fun e => ?_)
  · rw [if_pos (by simpa using e)] at h2
    rw [h2] at k
    walk_at "go"
    refine g_cutDropT (j := 1) ?_
    walk_at "go"
    exact k
  · rw [if_neg (by simpa using e)] at h2
    rw [h2] at k
    walk_at "go"
    exact k
def Ok (n : Nat) (d : D) : Prop := okR d n = true ∧ blk d ≤ 8000
theorem blks_mem {d : D} : ∀ {ds : List D}, d ∈ ds → blk d ≤ blks ds
  | [], h => by cases h
  | e :: ds, h => by
    rcases List.mem_cons.mp h with rfl | h
    · simp only [blks]; omega
    · have := blks_mem h; simp only [blks]; omega
theorem kids_ok {tg : List Str} {d e : D} {n : Nat} (h : Ok n d) (he : e ∈ (cls tg d).kids) : Ok n e := by
  cases q : (cls tg d).ok with
  | false => cases q2 : cls tg d <;> rw [q2] at q he <;> first | (cases q; done) | cases he
  | true =>
    obtain ⟨w, r, rfl, h1, h2⟩ := cls_tup q
    have he : e ∈ (clsW tg w r).kids := he
    have her : e ∈ r := by
      split at h2
      · rwa [h2] at he
      · rw [h2] at he; cases he
    obtain ⟨a, b⟩ := h
    cases n with
    | zero => simp [okR] at a
    | succ n =>
      simp only [okR, okRs, Bool.and_eq_true] at a
      refine ⟨okR_mono (okRs_all.mp a.2 e her) (by omega), ?_⟩
      have := blks_mem her
      simp only [blk, blks] at b
      omega
theorem kids_len (tg : List Str) (d : D) : (cls tg d).kids.length ≤ 2 := by cases cls tg d <;> simp [Kd.kids]
theorem kidsL_len (tg : List Str) : ∀ L : List D, (kidsL tg L).length ≤ 2 * L.length
  | [] => Nat.le_refl _
  | d :: L => by
    have h1 := kids_len tg d
    have h2 := kidsL_len tg L
    unfold kidsL at *
    rw [List.map_cons, List.flatten_cons, List.length_append, List.length_cons]
    omega
theorem sentence_ok {tg : List Str} (h : Tongue tg) {d : D} {n : Nat} (hd : Ok n d) (k : P (.bl (decide (sz tg 4 d ≤ 9))) C) : s_is_sentence [.tup (strsL tg), d] C P := by
  have hk : bfs tg 4 0 [d] = decide (sz tg 4 d ≤ 9) := by
    rw [bfs_sz 4 0 [d] (by omega)]
    unfold szs
    rw [List.map_cons, List.map_nil, List.sum_cons, List.sum_nil, Nat.zero_add, Nat.add_zero]
  rw [← hk] at k
  obtain ⟨B, hB⟩ : ∃ B, B = bfs tg 4 0 [d] := ⟨_, rfl⟩
  rw [← hB] at k
  unfold s_is_sentence a_is_sentence
  walk_at "go"
  refine g_kForR0 (fun i st C9 => C9 = C ∧ ∃ (L : List D) (m : Nat) (x4 x5 x6 : Option D), m ≤ 9 ∧ L.length ≤ 18 ∧ (∀ e ∈ L, Ok n e) ∧ B = bfs tg (4 - i) m L ∧ st = [some (.tup (strsL tg)), some d, some (.lst L), some (.int m), x4, x5, x6]) ⟨rfl, [d], 0, none, none, none, by omega, by simp, by simpa using hd, hB, rfl⟩ (fun i st C9 hi hw => ?_) (fun st C9 hw => ?_)
  · obtain ⟨rfl, L, m, x4, x5, x6, hm, hL, hok, hbfs, rfl⟩ := hw
    have hi4 : i < 4 := hi
    rw [show 4 - i = (4 - (i + 1)) + 1 by omega] at hbfs
    unfold bfs at hbfs
    walk_at "go"
    rw [show (m : Int) + (L.length : Int) = ((m + L.length : Nat) : Int) by omega]
    refine g_ifJ (fun st C2 => m + L.length ≤ 9 ∧ (L.all fun d => (cls tg d).ok) = true ∧ C2 = C9 ∧ st = [some (.tup (strsL tg)), some d, some (.lst L), some (.int (m + L.length : Nat)), some (.int i), x5, x6]) (fun N hN => ?_) (fun st C2 hw => ?_)
    · refine g_ifS ?_
      walk_at "go"
      refine g_iteD (fun e => ?_) (fun e => ?_)
      · walk_at "go"
        rw [if_pos (.inl (by omega))] at hbfs
        rw [hbfs] at k
        exact k
      · walk_at "go"
        refine g_kLcMap (fun e => .bl (cls tg e).ok) ?_ (fun e he R hR => ?_) ?_
        · simp only [sizeLine]; omega
        · walk_at "go"
          exact formed_ok h (hok e he).1 (hok e he).2 hR
        walk_at "go"
        refine g_all (bs := L.map fun e => (cls tg e).ok) (by rw [show L.map (fun e => D.bl (cls tg e).ok) = (L.map fun e => (cls tg e).ok).map D.bl by rw [List.map_map]; rfl]; exact bls_map _) ?_
        rw [List.all_map]
        walk_at "go"
        cases q : L.all fun d => (cls tg d).ok with
        | true =>
          rw [show L.all (id ∘ fun e => (cls tg e).ok) = true from q]
          walk_at "go"
          exact hN _ _ ⟨by omega, q, rfl, rfl⟩
        | false =>
          rw [show L.all (id ∘ fun e => (cls tg e).ok) = false from q]
          walk_at "go"
          rw [if_pos (.inr q)] at hbfs
          rw [hbfs] at k
          exact k
    · obtain ⟨hm2, hall, rfl, rfl⟩ := hw
      rw [if_neg (by rw [hall]; simp; omega)] at hbfs
      walk_at "go"
      intro q hq
      walk_at "go"
      refine g_kForL (fun j st C3 => C3 = put C2 q (.lst (kidsL tg (L.take j))) ∧ ∃ x5, st = [some (.tup (strsL tg)), some d, some (.lst L), some (.int (m + L.length : Nat)), some (.int i), x5, some (.ce q)]) ⟨rfl, _, rfl⟩ (fun j e st C3 hj hw => ?_) (fun st C3 hw => ?_)
      · obtain ⟨rfl, x5, rfl⟩ := hw
        have he : (cls tg e).ok = true := List.all_eq_true.mp hall e (List.mem_of_getElem? hj)
        walk_at "go"
        refine parts_ok he ?_
        walk_at "go"
        have h1 := kids_len tg e
        have h2 := kidsL_len tg (L.take j)
        rw [List.length_take] at h2
        refine g_extend put_same (by simp only [sizeLine]; omega) ?_
        walk_at "go"
        refine ⟨?_, _, rfl⟩
        rw [put_put]
        congr 1
        unfold kidsL
        rw [List.take_add_one, hj, List.map_append, List.flatten_append]
        simp
      · obtain ⟨rfl, x5, rfl⟩ := hw
        rw [List.take_length]
        walk_at "go"
        have hdel : del (put C2 q (.lst (kidsL tg L))) q = C2 := by
          funext a
          unfold del
          split
          · rename_i e; rw [e, hq]
          · rename_i e; exact put_ne e
        refine ⟨hdel, kidsL tg L, m + L.length, _, _, _, hm2, ?_, fun e he => ?_, ?_, rfl⟩
        · have := kidsL_len tg L
          omega
        · obtain ⟨us, hu, he⟩ := List.mem_flatten.mp he
          obtain ⟨e', he', rfl⟩ := List.mem_map.mp hu
          exact kids_ok (hok e' he') he
        · rw [hbfs]
  · obtain ⟨rfl, L, m, x4, x5, x6, hm, hL, hok, hbfs, rfl⟩ := hw
    rw [hbfs] at k
    walk_at "go"
    exact k
end
end A_k56

namespace A_k56.H
open PySem L2 AL
inductive Sent where
  | long (lo : Nat) (hi : Option Nat)
  | least (k m : Nat)
  | often (own : Str) (m : Nat)
  | apart
  | without (own : Str)
  | begins (own : Str)
  | ends (own : Str)
  | no (s : Sent)
  | both (s t : Sent)
  | either (s t : Sent)
def tree : Sent → D
  | .long lo hi => .tup [.str "long", .int lo, oD hi]
  | .least k m => .tup [.str "least", .int k, .int m]
  | .often own m => .tup [.str "often", .str own, .int m]
  | .apart => .tup [.str "apart"]
  | .without own => .tup [.str "without", .str own]
  | .begins own => .tup [.str "begins", .str own]
  | .ends own => .tup [.str "ends", .str own]
  | .no s => .tup [.str "not", tree s]
  | .both s t => .tup [.str "both", tree s, tree t]
  | .either s t => .tup [.str "either", tree s, tree t]
end A_k56.H

namespace A_k56.T
open PySem L2 AL
def sg : D → List Nat | .str x => x.cps.toList | _ => []
def Z (ds : List D) : List Nat := (ds.map sg).flatten
def kndB : D → Bool | .str x => decide (1 ≤ x.length) && decide (x.length ≤ 6) | _ => false
def goodB (c : Nat) : Bool := decide (33 ≤ c) && decide (c ≤ 126) && decide (c ≠ 37)
def tgB : D → Bool
  | .tup ds => decide (1 ≤ ds.length) && decide (ds.length ≤ 4) && ds.all kndB && (decide ((Z ds).length ≤ 12) && decide ((Z ds).Nodup) && (Z ds).all goodB)
  | _ => false
theorem len_toList (z : Str) : z.cps.toList.length = z.length := by rw [Array.length_toList]; rfl
theorem in_one (c : Nat) (z : Str) : (!(Builtin.Str.occurrences z ⟨#[c]⟩ 0 z.length 1).isEmpty) = decide (c ∈ z.cps.toList) := PySem.StrLaws.found_one ..
section
variable {C : AH} {P : D → AH → Prop}
theorem kd_tup {d : D} {n : Nat} (h : okR d n = true) : (∃ z, d = .tup z) ∨ (∃ t, kindOf C d = some t ∧ isT "tuple" t = false ∧ tgB d = false) := by
  cases d with
  | tup i => exact .inl ⟨i, rfl⟩
  | scr _ => simp [okR] at h
  | ce _ => simp [okR] at h
  | _ => exact .inr ⟨_, rfl, rfl, rfl⟩
theorem kd_str {d : D} {n : Nat} (h : okR d n = true) : (∃ z, d = .str z) ∨ (∃ t, kindOf C d = some t ∧ isT "str" t = false ∧ kndB d = false) := by
  cases d with
  | str i => exact .inl ⟨i, rfl⟩
  | scr _ => simp [okR] at h
  | ce _ => simp [okR] at h
  | _ => exact .inr ⟨_, rfl, rfl, rfl⟩
theorem sign_ok {c : Nat} (k : P (.bl (goodB c)) C) : s_is_sign [.str ⟨#[c]⟩] C P := by
  unfold s_is_sign a_is_sign
  walk_at "go"
  refine g_lenS (by show 1 ≤ sizeLine; simp only [sizeLine]; omega) ?_
  walk_at "go"
  refine g_kAnd (fun _ => ?_) (fun e => absurd (of_decide_eq_false e) (fun z => z rfl))
  walk_at "go"
  refine g_ord rfl ?_
  rw [show (⟨#[c]⟩ : Str).cps.getD 0 0 = c from rfl]
  walk_at "go"
  have e33 : decide ((33 : Int) ≤ (c : Int)) = decide (33 ≤ c) := decide_eq_decide.mpr (by omega)
  have e126 : decide ((c : Int) ≤ (126 : Int)) = decide (c ≤ 126) := decide_eq_decide.mpr (by omega)
  rw [e33]
  unfold goodB at k
  refine g_kChain (fun e => ?_) (fun e => ?_)
  · rw [e, Bool.true_and] at k
    walk_at "go"
    rw [e126]
    refine g_kAnd (fun e => ?_) (fun e => ?_)
    · rw [e, Bool.true_and] at k
      walk_at "go"
      refine g_ord rfl ?_
      rw [show (⟨#[c]⟩ : Str).cps.getD 0 0 = c from rfl]
      walk_at "go"
      have e37 : (!decide ((c : Int) = (37 : Int))) = decide (c ≠ 37) := by
        rw [← decide_not]
        exact decide_eq_decide.mpr (by omega)
      rw [e37]
      exact k
    · rw [e, Bool.false_and] at k
      exact k
  · rw [e, Bool.false_and, Bool.false_and] at k
    exact k
theorem snocRec {M : List Str → Prop} (h0 : M []) (h1 : ∀ xs v, M xs → M (xs ++ [v])) (xs : List Str) : M xs := by
  have : ∀ ys : List Str, M ys.reverse := fun ys => by
    induction ys with
    | nil => exact h0
    | cons v ys ih => rw [List.reverse_cons]; exact h1 _ _ ih
  have h := this xs.reverse
  rwa [List.reverse_reverse] at h
theorem dd_any (xs : List Str) (k : Str) : (dd xs).any (· == k) = decide (k ∈ xs) := by
  refine snocRec (M := fun xs => (dd xs).any (· == k) = decide (k ∈ xs)) rfl (fun xs v ih => ?_) xs
  rw [dd_snoc, ddS_any, ih]
  simp
theorem dd_nodup (xs : List Str) : decide ((dd xs).length < xs.length) = !decide xs.Nodup := by
  have : (dd xs).length = xs.length ↔ xs.Nodup := by
    refine snocRec (M := fun xs => (dd xs).length = xs.length ↔ xs.Nodup) (by simp [dd]) (fun xs v ih => ?_) xs
    rw [dd_snoc, ddS_len, dd_any, List.length_append, List.nodup_append]
    have := dd_le xs
    by_cases hv : v ∈ xs
    · rw [if_pos (decide_eq_true hv)]
      constructor
      · intro h; simp at h; omega
      · rintro ⟨_, _, h⟩
        exact absurd rfl (h v hv v (by simp))
    · rw [if_neg (by simpa using hv)]
      constructor
      · intro h
        simp at h
        refine ⟨ih.mp h, by simp, ?_⟩
        intro a ha b hb e
        have : b = v := by simpa using hb
        exact hv (by rw [← this, ← e]; exact ha)
      · rintro ⟨h, _, _⟩
        rw [ih.mpr h]; rfl
  have h2 := dd_le xs
  rw [← decide_not]
  exact decide_eq_decide.mpr ⟨fun h e => by rw [this.mpr e] at h; omega, fun h => by
    rcases Nat.lt_or_ge (dd xs).length xs.length with z | z
    · exact z
    · exact absurd (this.mp (by omega)) h⟩
theorem sgS_nodup (z : Str) : (sgS z).Nodup ↔ z.cps.toList.Nodup := by
  unfold sgS
  refine ⟨fun h => ?_, fun h => ?_⟩
  · exact (List.pairwise_map.mp h).imp fun hne e => hne (by rw [e])
  · refine List.pairwise_map.mpr (h.imp fun hne e => hne ?_)
    have := congrArg (fun z : Str => z.cps.toList) e
    simpa using this
theorem blsD_mapD {f : D → Bool} : ∀ l : List D, blsD (l.map fun c => D.bl (f c)) = some (l.map f)
  | [] => rfl
  | a :: l => by
    show (blsD (l.map fun c => D.bl (f c))).map (f a :: ·) = _
    rw [blsD_mapD l]
    rfl
theorem knd_strs : ∀ {ds : List D}, ds.all kndB = true → ∃ xs : List Str, ds = strsL xs ∧ ∀ x ∈ xs, x.length ≤ 6
  | [], _ => ⟨[], rfl, by simp⟩
  | d :: ds, h => by
    rw [List.all_cons, Bool.and_eq_true] at h
    obtain ⟨xs, rfl, hx⟩ := knd_strs h.2
    cases d with
    | str x =>
      refine ⟨x :: xs, rfl, fun y hy => ?_⟩
      rcases List.mem_cons.mp hy with rfl | hy
      · have := h.1; simp only [kndB, Bool.and_eq_true, decide_eq_true_eq] at this; exact this.2
      · exact hx y hy
    | _ => exact absurd h.1 (by simp [kndB])
theorem Z_strs (xs : List Str) : Z (strsL xs) = (Txt.join "" xs).cps.toList := by
  rw [join_toList]
  unfold Z strsL
  rw [List.map_map]
  rfl
theorem blks_mem {ds : List D} : ∀ d ∈ ds, blk d ≤ blks ds := by
  induction ds with
  | nil => intro d h; cases h
  | cons e ds ih =>
    intro d h
    rcases List.mem_cons.mp h with rfl | h
    · simp only [blks]; omega
    · have := ih d h; simp only [blks]; omega
theorem sum6 : ∀ {xs : List Str}, (∀ x ∈ xs, x.length ≤ 6) → (xs.map (·.length)).sum ≤ 6 * xs.length
  | [], _ => Nat.zero_le _
  | x :: xs, h => by
    have h1 := h x List.mem_cons_self
    have h2 := sum6 fun y hy => h y (List.mem_cons_of_mem _ hy)
    rw [List.map_cons, List.sum_cons, List.length_cons]
    omega
theorem mem_ok {ds : List D} {n : Nat} (hd : okR (.tup ds) n = true) (hb : blk (.tup ds) ≤ 8000) : ∀ e ∈ ds, (∃ m, okR e m = true) ∧ blk e ≤ 8000 := by
  intro e he
  refine ⟨?_, Nat.le_trans (blks_mem e he) hb⟩
  cases n with
  | zero => simp [okR] at hd
  | succ m => simp only [okR] at hd; exact ⟨m, okRs_all.mp hd e he⟩
theorem is_tongue_ok {d : D} {n : Nat} (hd : okR d n = true) (hb : blk d ≤ 8000) (k : P (.bl (tgB d)) C) : s_is_tongue [d] C P := by
  unfold s_is_tongue a_is_tongue
  rcases kd_tup (C := C) hd with ⟨ds, rfl⟩ | ⟨t, h1, h2, h3⟩
  · have hds := mem_ok hd hb
    have hk : tgB (.tup ds) = (decide (1 ≤ ds.length) && decide (ds.length ≤ 4) && ds.all kndB && (decide ((Z ds).length ≤ 12) && decide ((Z ds).Nodup) && (Z ds).all goodB)) := rfl
    rw [hk] at k
    by_cases hl : 1 ≤ ds.length ∧ ds.length ≤ 4
    · rw [decide_eq_true hl.1, decide_eq_true hl.2, Bool.true_and, Bool.true_and] at k
      walk_at "go"
      refine g_ifF (fun K hK => ?_) ?_
      · walk_at "go"
        rw [show isT "tuple" "tuple" = true from rfl, show (!true) = false from rfl]
        walk_at "go"
        refine g_kChain (fun e => ?_) (fun e => ?_)
        · walk_at "go"
          rw [show decide ((ds.length : Int) ≤ 4) = true from decide_eq_true (by omega)]
          exact hK
        · exact absurd (of_decide_eq_false e) (by omega)
      walk_at "go"
      by_cases ha : ds.all kndB = true
      · rw [ha, Bool.true_and] at k
        obtain ⟨xs, rfl, hx6⟩ := knd_strs ha
        have hxl : xs.length ≤ 4 := by have := hl.2; rw [List.length_map] at this; exact this
        have hs6 := sum6 hx6
        rw [Z_strs] at k
        refine g_ifF (fun K hK => ?_) ?_
        · walk_at "go"
          refine g_kLcMap (fun d => .bl (kndB d)) (by rw [List.length_map]; simp only [sizeLine]; omega) (fun d hd' R hR => ?_) ?_
          · obtain ⟨x, hx, rfl⟩ := List.mem_map.mp hd'
            have h6 := hx6 x hx
            walk_at "go"
            rw [show isT "str" "str" = true from rfl]
            refine g_kAnd (fun _ => ?_) (fun e => by cases e)
            walk_at "go"
            refine g_lenS (by simp only [sizeLine]; omega) ?_
            walk_at "go"
            have e1 : kndB (.str x) = (decide (1 ≤ x.length) && decide (x.length ≤ 6)) := rfl
            rw [e1] at hR
            have c1 : decide ((1 : Int) ≤ (x.length : Int)) = decide (1 ≤ x.length) := decide_eq_decide.mpr (by omega)
            have c2 : decide ((x.length : Int) ≤ 6) = decide (x.length ≤ 6) := decide_eq_decide.mpr (by omega)
            rw [c1]
            refine g_kChain (fun e => ?_) (fun e => ?_)
            · rw [e, Bool.true_and] at hR
              walk_at "go"
              rw [c2]
              exact hR
            · rw [e, Bool.false_and] at hR
              exact hR
          walk_at "go"
          refine g_all (blsD_mapD _) ?_
          rw [List.all_map]
          walk_at "go"
          rw [show (strsL xs).all (id ∘ kndB) = (strsL xs).all kndB from rfl, ha]
          exact hK
        walk_at "go"
        refine g_joinET (by omega) ?_
        have hjl : (Txt.join "" xs).length ≤ 24 := by rw [join_len]; omega
        generalize Txt.join "" xs = z at hjl k
        walk_at "go"
        refine g_ifS ?_
        walk_at "go"
        refine g_lenS (by simp only [sizeLine]; omega) ?_
        walk_at "go"
        rw [show z.cps.toList.length = z.length from len_toList z] at k
        by_cases h12 : z.length ≤ 12
        · rw [decide_eq_true h12, Bool.true_and] at k
          rw [show decide ((z.length : Int) > 12) = false from decide_eq_false (by omega)]
          walk_at "go"
          refine g_kLenSet (by omega) ?_
          walk_at "go"
          refine g_lenS (by simp only [sizeLine]; omega) ?_
          walk_at "go"
          have e1 : decide (((dd (sgS z)).length : Int) < (z.length : Int)) = !decide (z.cps.toList.Nodup) := by
            rw [show decide (((dd (sgS z)).length : Int) < (z.length : Int)) = decide ((dd (sgS z)).length < (sgS z).length) from decide_eq_decide.mpr (by rw [sgS_len]; omega), dd_nodup]
            rw [decide_eq_decide.mpr (sgS_nodup z)]
          rw [e1]
          cases e2 : decide (z.cps.toList.Nodup) with
          | true =>
            rw [e2, Bool.true_and] at k
            rw [show (!true) = false from rfl]
            walk_at "go"
            refine g_kLcMap (fun d => match d with | .str y => .bl (goodB (y.cps.getD 0 0)) | d => d) ?_ (fun d hd R hR => ?_) ?_
            · unfold signs; rw [List.length_map, len_toList]; simp only [sizeLine]; omega
            · obtain ⟨c, hc, rfl⟩ := List.mem_map.mp (show d ∈ z.cps.toList.map fun c => D.str ⟨#[c]⟩ from hd)
              walk_at "go"
              exact sign_ok hR
            have e2 : (signs z).map (fun d => match d with | .str y => .bl (goodB (y.cps.getD 0 0)) | d => d) = (z.cps.toList.map fun c => c).map fun c => D.bl (goodB c) := by
              unfold signs
              rw [List.map_map, List.map_map]
              rfl
            rw [e2, List.map_id']
            walk_at "go"
            have e3 : blsD (z.cps.toList.map fun c => D.bl (goodB c)) = some (z.cps.toList.map goodB) := by
              generalize z.cps.toList = l
              induction l with
              | nil => rfl
              | cons a l ih =>
                show (blsD (l.map fun c => D.bl (goodB c))).map (goodB a :: ·) = _
                rw [ih]
                rfl
            refine g_all e3 ?_
            rw [List.all_map]
            exact k
          | false =>
            rw [e2, Bool.false_and] at k
            rw [show (!false) = true from rfl]
            walk_at "go"
            exact k
        · rw [decide_eq_false h12, Bool.false_and, Bool.false_and] at k
          rw [show decide ((z.length : Int) > 12) = true from decide_eq_true (by omega)]
          walk_at "go"
          exact k
      · have ha' : ds.all kndB = false := by cases e : ds.all kndB <;> simp_all
        rw [ha', Bool.false_and] at k
        refine g_ifT (fun K hK => ?_) ?_
        · walk_at "go"
          refine g_kLcMap (fun d => .bl (kndB d)) (by simp only [sizeLine]; omega) (fun d hd' R hR => ?_) ?_
          · obtain ⟨⟨m, hm⟩, hbd⟩ := hds d hd'
            walk_at "go"
            rcases kd_str (C := C) hm with ⟨x, rfl⟩ | ⟨t, h1, h2, h3⟩
            · have hxl : x.length ≤ 8000 := by simpa [blk] using hbd
              walk_at "go"
              rw [show isT "str" "str" = true from rfl]
              refine g_kAnd (fun _ => ?_) (fun e => by cases e)
              walk_at "go"
              refine g_lenS (by simp only [sizeLine]; omega) ?_
              walk_at "go"
              have e1 : kndB (.str x) = (decide (1 ≤ x.length) && decide (x.length ≤ 6)) := rfl
              rw [e1] at hR
              have c1 : decide ((1 : Int) ≤ (x.length : Int)) = decide (1 ≤ x.length) := decide_eq_decide.mpr (by omega)
              have c2 : decide ((x.length : Int) ≤ 6) = decide (x.length ≤ 6) := decide_eq_decide.mpr (by omega)
              rw [c1]
              refine g_kChain (fun e => ?_) (fun e => ?_)
              · rw [e, Bool.true_and] at hR
                walk_at "go"
                rw [c2]
                exact hR
              · rw [e, Bool.false_and] at hR
                exact hR
            · rw [h3] at hR
              refine g_kIsi h1 ?_
              rw [h2]
              refine g_kAnd (fun e => by cases e) (fun _ => ?_)
              exact hR
          walk_at "go"
          refine g_all (blsD_mapD _) ?_
          rw [List.all_map]
          walk_at "go"
          rw [show ds.all (id ∘ kndB) = ds.all kndB from rfl, ha']
          exact hK
        walk_at "go"
        exact k
    · have hf : (decide (1 ≤ ds.length) && decide (ds.length ≤ 4)) = false := by
        rw [← Bool.decide_and]
        exact decide_eq_false hl
      rw [hf, Bool.false_and, Bool.false_and] at k
      walk_at "go"
      refine g_ifT (fun K hK => ?_) ?_
      · walk_at "go"
        rw [show isT "tuple" "tuple" = true from rfl, show (!true) = false from rfl]
        walk_at "go"
        refine g_kChain (fun e => ?_) (fun e => ?_)
        · have := of_decide_eq_true e
          walk_at "go"
          rw [show decide ((ds.length : Int) ≤ 4) = false from decide_eq_false (by omega)]
          exact hK
        · walk_at "go"
          exact hK
      walk_at "go"
      exact k
  · rw [h3] at k
    walk_at "go"
    refine g_ifT (fun K hK => ?_) ?_
    · walk_at "go"
      refine g_kIsi h1 ?_
      rw [h2]
      walk_at "go"
      exact hK
    walk_at "go"
    exact k
end
end A_k56.T

namespace A_k56
open PySem L2 AL
open A_k56.H (Sent tree)
def Bk (n m : Nat) (d : D) : Prop := okR d n = true ∧ blk d ≤ m
theorem Bk.mono {n m n2 m2 : Nat} {d : D} (h : Bk n m d) (hn : n ≤ n2 := by omega) (hm : m ≤ m2 := by omega) : Bk n2 m2 d := ⟨okR_mono h.1 hn, Nat.le_trans h.2 hm⟩
theorem blks_le {m : Nat} : ∀ {ds : List D}, (∀ d ∈ ds, blk d ≤ m) → blks ds ≤ ds.length * (m + 1)
  | [], _ => Nat.zero_le _
  | d :: ds, h => by
    have h1 := h d List.mem_cons_self
    have h2 := blks_le fun e he => h e (List.mem_cons_of_mem _ he)
    simp only [blks, List.length_cons, Nat.add_mul, Nat.one_mul] at *
    omega
theorem Bk.lst {n m l : Nat} {ds : List D} (h : ∀ d ∈ ds, Bk n m d) (hl : ds.length ≤ l) : Bk (n + 1) (l * (m + 1)) (.lst ds) :=
  ⟨by simp only [okR]; exact okRs_all.mpr fun d hd => (h d hd).1, Nat.le_trans (blks_le fun d hd => (h d hd).2) (Nat.mul_le_mul_right _ hl)⟩
theorem Bk.tup {n m l : Nat} {ds : List D} (h : ∀ d ∈ ds, Bk n m d) (hl : ds.length ≤ l) : Bk (n + 1) (l * (m + 1)) (.tup ds) :=
  ⟨by simp only [okR]; exact okRs_all.mpr fun d hd => (h d hd).1, Nat.le_trans (blks_le fun d hd => (h d hd).2) (Nat.mul_le_mul_right _ hl)⟩
theorem Bk.int {i : Int} (h : i.natAbs < 2 ^ 1800) : Bk 0 0 (.int i) := by
  refine ⟨?_, by simp [blk]⟩
  simp only [okR, decide_eq_true_eq]
  by_cases z : i.natAbs = 0
  · rw [z]; decide
  · have := (Nat.log2_lt z).mpr h
    omega
theorem big3 : 10 ^ 40 < 2 ^ 1800 := by decide +kernel
theorem Bk.int' {i : Int} (h : i.natAbs ≤ 10 ^ 40) : Bk 0 0 (.int i) := Bk.int (Nat.lt_of_le_of_lt h big3)
theorem big4 : 1000 ≤ 10 ^ 40 := by decide +kernel
theorem Bk.nat {i : Nat} (h : i ≤ 1000 := by omega) : Bk 0 0 (.int (i : Int)) := Bk.int' (Nat.le_trans (by simpa using h) big4)
theorem Bk.bl (b : Bool) : Bk 0 0 (.bl b) := ⟨rfl, by simp [blk]⟩
theorem Bk.non : Bk 0 0 .non := ⟨rfl, by simp [blk]⟩
theorem Bk.dk0 : Bk 1 0 (.dk []) := ⟨rfl, by simp [blk, blkk]⟩
def Tx (z : Str) (m : Nat) : Prop := okS z ∧ z.length ≤ m
theorem Tx.mono {z : Str} {m n : Nat} (h : Tx z m) (hn : m ≤ n := by omega) : Tx z n := ⟨h.1, Nat.le_trans h.2 hn⟩
theorem Tx.bk {z : Str} {m : Nat} (h : Tx z m) : Bk 0 m (.str z) := by
  refine ⟨?_, h.2⟩
  simp only [okR]
  rw [Array.all_eq_true]
  intro j hj
  exact decide_eq_true (h.1 _ (by rw [Array.mem_toList_iff]; exact Array.getElem_mem hj))
theorem Tx.add {x y : Str} {m n : Nat} (h : Tx x m) (g : Tx y n) : Tx (x ++ y) (m + n) := by
  have e : (x ++ y).cps.toList = x.cps.toList ++ y.cps.toList := TL.tl_append x y
  refine ⟨fun c hc => ?_, ?_⟩
  · rw [e] at hc
    rcases List.mem_append.mp hc with z | z
    · exact h.1 c z
    · exact g.1 c z
  · have h1 := h.2
    have h2 := g.2
    rw [← len_toList, e, List.length_append, len_toList, len_toList]
    omega
theorem Tx.cut {x : Str} {m : Nat} {lo hi : Option Int} (h : Tx x m) : Tx (cutS x lo hi) m := by
  refine ⟨fun c hc => ?_, Nat.le_trans (cutS_length x lo hi) h.2⟩
  have e : (cutS x lo hi).cps.toList = (x.cps.toList.drop (HT.sIx x.length 0 lo)).take (HT.sIx x.length x.length hi - HT.sIx x.length 0 lo) := rfl
  rw [e] at hc
  exact h.1 c (List.mem_of_mem_drop (List.mem_of_mem_take hc))
theorem Tx.one {y : Str} (h : One y) : Tx y 1 := ⟨h.ok, by have := ones_len (ys := [y]) (by simpa using h); simp at this; omega⟩
theorem Zs_few {tg : List Str} (h : Tongue tg) : Tx (Txt.join "" tg) 12 ∧ 1 ≤ (Txt.join "" tg).length := by
  refine ⟨⟨fun c hc => ?_, ?_⟩, ?_⟩
  · have h1 := h.asc
    have e : chars (Txt.join "" tg) = (tg.map chars).flatten := by
      unfold chars
      rw [join_toList, List.map_flatten, List.map_map]
      rfl
    rw [← e] at h1
    obtain ⟨c', hc', e⟩ := h1 ⟨#[c]⟩ (List.mem_map.mpr ⟨c, hc, rfl⟩)
    have e2 : c = c' := by
      have := congrArg (fun z : Str => z.cps.toList) e
      simpa using this
    omega
  · rw [join_len]; exact join_small h
  · rw [join_len]
    have hp := h.pos
    have h1 := h.one
    match tg, hp, h1 with
    | y :: ys, _, h1 =>
      have := h1 y (List.mem_cons_self ..)
      rw [List.map_cons, List.sum_cons]
      omega
theorem tx_lit {z : Str} {m : Nat} (h : (z.cps.toList.all fun c => decide (c < 0x110000)) = true) (hl : z.length ≤ m) : Tx z m := ⟨fun c hc => by simpa using List.all_eq_true.mp h c hc, hl⟩
def lim : Nat → Nat
  | 0 => 39
  | d + 1 => 3 * (lim d + 1)
theorem lim_le (d : Nat) : 39 ≤ lim d := by
  induction d with
  | zero => exact Nat.le_refl _
  | succ d ih => unfold lim; omega
def Th (d : D) : Prop := Bk 60 8000 d
theorem Bk.th {n m : Nat} {d : D} (h : Bk n m d) (hn : n ≤ 60 := by omega) (hm : m ≤ 8000 := by omega) : Th d := h.mono hn hm
def Lv (k : Nat) (d : D) : Prop := Bk (k + 1) (lim k) d
theorem Lv.up {k : Nat} {d : D} (h : Lv k d) : Lv (k + 1) d := Bk.mono h (by omega) (by show lim k ≤ 3 * (lim k + 1); omega)
theorem Lv.tup {k : Nat} {ds : List D} (h : ∀ e ∈ ds, Lv k e) (hl : ds.length ≤ 3 := by decide) : Lv (k + 1) (.tup ds) := Bk.tup (l := 3) h hl
theorem Lv.t1 {k : Nat} {w : Str} {a : D} (hw : Lv k (.str w)) (h : Lv k a) : Lv (k + 1) (.tup [.str w, a]) := Lv.tup (by simp [hw, h]) (by simp)
theorem Lv.t2 {k : Nat} {w : Str} {a b : D} (hw : Lv k (.str w)) (h : Lv k a) (g : Lv k b) : Lv (k + 1) (.tup [.str w, a, b]) := Lv.tup (by simp [hw, h, g]) (by simp)
theorem Lv.lit {k : Nat} {w : Str} (h : (w.cps.toList.all fun c => decide (c < 0x110000)) = true) (hl : w.length ≤ 39) : Lv k (.str w) := by
  have := lim_le k
  exact (tx_lit h hl).bk.mono
theorem lim0 : lim 0 = 39 := rfl
theorem lim1 : lim 1 = 120 := rfl
theorem lim2 : lim 2 = 363 := rfl
theorem lim3 : lim 3 = 1092 := rfl
theorem lim4 : lim 4 = 3279 := rfl
theorem Lv.th {k : Nat} {d : D} (h : Lv k d) (hk : k ≤ 4) : Th d := by
  have : lim k ≤ 3279 := by
    have : k = 0 ∨ k = 1 ∨ k = 2 ∨ k = 3 ∨ k = 4 := by omega
    rcases this with rfl | rfl | rfl | rfl | rfl <;> decide
  exact Bk.mono h (by omega) (by omega)
/-! ### sentences that may stand -/
structure Pz (tg : List Str) (own : Str) (m : Nat) : Prop where
  one : 1 ≤ own.length
  len : own.length ≤ m
  inn : ∀ c ∈ own.cps.toList, c ∈ Zs tg
def leafV (tg : List Str) : Sent → Prop
  | .long lo none => lo ≤ 30
  | .long lo (some h) => lo ≤ h ∧ h ≤ 30
  | .least k m => k < tg.length ∧ m ≤ 9
  | .often own m => Pz tg own 4 ∧ own.cps.toList.Nodup ∧ m ≤ 3
  | .apart => True
  | .without own => Pz tg own 6
  | .begins own => Pz tg own 6
  | .ends own => Pz tg own 6
  | .no _ => False
  | .both _ _ => False
  | .either _ _ => False
def FitV (tg : List Str) : Nat → Sent → Prop
  | 0, _ => False
  | d + 1, .no s => FitV tg d s
  | d + 1, .both s t => FitV tg d s ∧ FitV tg d t
  | d + 1, .either s t => FitV tg d s ∧ FitV tg d t
  | _ + 1, s => leafV tg s
theorem leaf_fitV {tg : List Str} {d : Nat} {s : Sent} (h : leafV tg s) : FitV tg (d + 1) s := by
  cases s <;> first | exact h | exact h.elim
theorem Pz.ok {tg : List Str} (ht : Tongue tg) {own : Str} {m : Nat} (h : Pz tg own m) : okS own := fun c hc => (Zs_few ht).1.1 c (h.inn c hc)
theorem Pz.tx {tg : List Str} (ht : Tongue tg) {own : Str} {m : Nat} (h : Pz tg own m) : Tx own m := ⟨h.ok ht, h.len⟩
theorem clsW_leaf {tg : List Str} {w : Str} {r : List D} (h1 : w ≠ "not") (h2 : ¬ (w = "both" ∨ w = "either")) (hp : plainB tg w r = true) : clsW tg w r = .leaf := by
  unfold clsW
  rw [if_neg h1, if_neg h2, if_pos hp]
theorem piece_ok' {tg : List Str} {own : Str} {m : Nat} (h : Pz tg own m) : piece (Zs tg) (.str own) m = true := by
  simp only [piece, decide_eq_true h.one, decide_eq_true h.len, Bool.true_and]
  exact List.all_eq_true.mpr fun c hc => decide_eq_true (h.inn c hc)
theorem wi {i : Nat} {lo hi : Int} (h1 : lo ≤ i) (h2 : (i : Int) ≤ hi) : within (.int (i : Int)) lo hi = true := by
  simp only [within, decide_eq_true h1, decide_eq_true h2, Bool.true_and]
theorem leaf_cls {tg : List Str} {s : Sent} (h : leafV tg s) : cls tg (tree s) = .leaf := by
  cases s with
  | long lo hi =>
    refine clsW_leaf (w := "long") (by decide +kernel) (by decide +kernel) ?_
    unfold plainB
    rw [if_pos rfl]
    cases hi with
    | none =>
      have h : lo ≤ 30 := h
      show (within (.int (lo : Int)) 0 30 && (isNon (oD none) || _)) = true
      rw [wi (by omega) (by omega)]
      rfl
    | some x =>
      have h : lo ≤ x ∧ x ≤ 30 := h
      show (within (.int (lo : Int)) 0 30 && (isNon (oD (some x)) || within (.int (x : Int)) (lo : Int) 30)) = true
      rw [wi (by omega) (by omega), wi (by omega) (by omega), Bool.or_true]
      rfl
  | least k m =>
    have h : k < tg.length ∧ m ≤ 9 := h
    refine clsW_leaf (w := "least") (by decide +kernel) (by decide +kernel) ?_
    unfold plainB
    rw [if_neg (by decide +kernel), if_pos rfl]
    show (within (.int (k : Int)) 0 ((tg.length : Int) - 1) && within (.int (m : Int)) 0 9) = true
    rw [wi (by omega) (by omega), wi (by omega) (by omega)]
    rfl
  | often own m =>
    obtain ⟨h1, h2, h3⟩ := h
    refine clsW_leaf (w := "often") (by decide +kernel) (by decide +kernel) ?_
    unfold plainB
    rw [if_neg (by decide +kernel), if_neg (by decide +kernel), if_pos rfl]
    show (piece (Zs tg) (.str own) 4 && within (.int (m : Int)) 0 3 && decide own.cps.toList.Nodup) = true
    rw [piece_ok' h1, wi (by omega) (by omega), decide_eq_true h2]
    rfl
  | apart => exact clsW_leaf (w := "apart") (by decide +kernel) (by decide +kernel) (by unfold plainB; rw [if_neg (by decide +kernel), if_neg (by decide +kernel), if_neg (by decide +kernel), if_pos rfl]; rfl)
  | without own =>
    refine clsW_leaf (w := "without") (by decide +kernel) (by decide +kernel) ?_
    unfold plainB
    rw [if_neg (by decide +kernel), if_neg (by decide +kernel), if_neg (by decide +kernel), if_neg (by decide +kernel), if_pos (.inl rfl)]
    exact piece_ok' h
  | begins own =>
    refine clsW_leaf (w := "begins") (by decide +kernel) (by decide +kernel) ?_
    unfold plainB
    rw [if_neg (by decide +kernel), if_neg (by decide +kernel), if_neg (by decide +kernel), if_neg (by decide +kernel), if_pos (.inr (.inl rfl))]
    exact piece_ok' h
  | ends own =>
    refine clsW_leaf (w := "ends") (by decide +kernel) (by decide +kernel) ?_
    unfold plainB
    rw [if_neg (by decide +kernel), if_neg (by decide +kernel), if_neg (by decide +kernel), if_neg (by decide +kernel), if_pos (.inr (.inr rfl))]
    exact piece_ok' h
  | _ => exact h.elim
theorem sz_leaf {tg : List Str} {s : Sent} (h : leafV tg s) (k : Nat) : sz tg (k + 1) (tree s) = 1 := by
  unfold sz
  rw [leaf_cls h]
theorem leaf_lv {tg : List Str} (ht : Tongue tg) {s : Sent} (h : leafV tg s) : Lv 0 (tree s) := by
  have w : ∀ {z : Str} {m : Nat}, Tx z m → m ≤ 12 → Bk 0 12 (.str z) := fun h hm => h.bk.mono
  have l : ∀ {z : Str}, (z.cps.toList.all fun c => decide (c < 0x110000)) = true → z.length ≤ 12 → Bk 0 12 (.str z) := fun a b => w (tx_lit a b) (Nat.le_refl _)
  have t3 : ∀ {a b c : D}, Bk 0 12 a → Bk 0 12 b → Bk 0 12 c → Lv 0 (.tup [a, b, c]) := fun ha hb hc => Bk.tup (l := 3) (n := 0) (m := 12) (by simp [ha, hb, hc]) (by simp)
  have t2 : ∀ {a b : D}, Bk 0 12 a → Bk 0 12 b → Lv 0 (.tup [a, b]) := fun ha hb => Bk.tup (l := 3) (n := 0) (m := 12) (by simp [ha, hb]) (by simp)
  cases s with
  | long lo hi =>
    refine t3 (l (by decide +kernel) (by decide +kernel)) ?_ ?_
    · cases hi with
      | none => have h : lo ≤ 30 := h; exact (Bk.nat (i := lo)).mono
      | some x => have h : lo ≤ x ∧ x ≤ 30 := h; exact (Bk.nat (i := lo)).mono
    · cases hi with
      | none => exact Bk.non.mono
      | some x => have h : lo ≤ x ∧ x ≤ 30 := h; exact (Bk.nat (i := x)).mono
  | least k m =>
    have h : k < tg.length ∧ m ≤ 9 := h
    have := ht.most
    exact t3 (l (by decide +kernel) (by decide +kernel)) ((Bk.nat (i := k)).mono) ((Bk.nat (i := m)).mono)
  | often own m => 
    have h3 := h.2.2
    exact t3 (l (by decide +kernel) (by decide +kernel)) (w (h.1.tx ht) (by omega)) ((Bk.nat (i := m)).mono)
  | apart => exact Bk.tup (l := 3) (n := 0) (m := 12) (by intro e he; rw [List.mem_singleton.mp he]; exact l (by decide +kernel) (by decide +kernel)) (by simp)
  | without own => exact t2 (l (by decide +kernel) (by decide +kernel)) (w (Pz.tx ht h) (by omega))
  | begins own => exact t2 (l (by decide +kernel) (by decide +kernel)) (w (Pz.tx ht h) (by omega))
  | ends own => exact t2 (l (by decide +kernel) (by decide +kernel)) (w (Pz.tx ht h) (by omega))
  | _ => exact h.elim
theorem Lv.le {k m : Nat} {d : D} (h : Lv k d) (hk : k ≤ m) : Lv m d := by
  induction hk with
  | refl => exact h
  | step _ ih => exact ih.up
theorem fit_lv {tg : List Str} (ht : Tongue tg) : ∀ {d : Nat} {s : Sent}, FitV tg (d + 1) s → Lv d (tree s)
  | 0, .no s, h => (h : False).elim
  | 0, .both s t, h => (h.1 : False).elim
  | 0, .either s t, h => (h.1 : False).elim
  | d + 1, .no s, h => Lv.t1 (.lit (by decide +kernel) (by decide +kernel)) (fit_lv ht (d := d) (s := s) h)
  | d + 1, .both s t, h => Lv.t2 (.lit (by decide +kernel) (by decide +kernel)) (fit_lv ht h.1) (fit_lv ht h.2)
  | d + 1, .either s t, h => Lv.t2 (.lit (by decide +kernel) (by decide +kernel)) (fit_lv ht h.1) (fit_lv ht h.2)
  | d, .long lo hi, h => (leaf_lv ht (s := .long lo hi) h).le (Nat.zero_le _)
  | d, .least k m, h => (leaf_lv ht (s := .least k m) h).le (Nat.zero_le _)
  | d, .often o m, h => (leaf_lv ht (s := .often o m) h).le (Nat.zero_le _)
  | d, .apart, h => (leaf_lv ht (s := .apart) h).le (Nat.zero_le _)
  | d, .without o, h => (leaf_lv ht (s := .without o) h).le (Nat.zero_le _)
  | d, .begins o, h => (leaf_lv ht (s := .begins o) h).le (Nat.zero_le _)
  | d, .ends o, h => (leaf_lv ht (s := .ends o) h).le (Nat.zero_le _)
def sL (ss : List Sent) : List D := ss.map tree
theorem tgB_true {tg : List Str} (ht : Tongue tg) : A_k56.T.tgB (.tup (strsL tg)) = true := by
  have hz : A_k56.T.Z (strsL tg) = Zs tg := A_k56.T.Z_strs tg
  have hk : A_k56.T.tgB (.tup (strsL tg)) = (decide (1 ≤ (strsL tg).length) && decide ((strsL tg).length ≤ 4) && (strsL tg).all A_k56.T.kndB && (decide ((A_k56.T.Z (strsL tg)).length ≤ 12) && decide ((A_k56.T.Z (strsL tg)).Nodup) && (A_k56.T.Z (strsL tg)).all A_k56.T.goodB)) := rfl
  have hl : (strsL tg).length = tg.length := List.length_map ..
  have hch : chars (Txt.join "" tg) = (tg.map chars).flatten := by
    unfold chars
    rw [join_toList, List.map_flatten, List.map_map]
    rfl
  rw [hk, hz, hl, decide_eq_true ht.pos, decide_eq_true ht.most, Bool.true_and, Bool.true_and]
  have h1 : (strsL tg).all A_k56.T.kndB = true := List.all_eq_true.mpr fun d hd => by
    obtain ⟨y, hy, rfl⟩ := List.mem_map.mp hd
    simp only [A_k56.T.kndB, decide_eq_true (ht.one y hy), decide_eq_true (ht.six y hy)]
    rfl
  have h2 : (Zs tg).length ≤ 12 := by unfold Zs; rw [len_toList]; exact (Zs_few ht).1.2
  have h3 : (Zs tg).Nodup := by
    have h := ht.unlike
    rw [← hch] at h
    unfold chars at h
    exact (List.pairwise_map.mp h).imp fun hne e => hne (by rw [e])
  have h4 : (Zs tg).all A_k56.T.goodB = true := List.all_eq_true.mpr fun c hc => by
    have h := ht.good
    rw [← hch] at h
    obtain ⟨c', hc', e⟩ := h ⟨#[c]⟩ (List.mem_map.mpr ⟨c, hc, rfl⟩)
    have : c = c' := by
      have := congrArg (fun z : Str => z.cps.toList) e
      simpa using this
    rw [this]
    exact hc'
  rw [h1, decide_eq_true h2, decide_eq_true h3, h4]
  rfl
theorem tongue_bk {tg : List Str} (ht : Tongue tg) : Bk 1 52 (.tup (strsL tg)) := by
  refine Bk.tup (l := 4) (n := 0) (m := 12) (fun x hx => ?_) (by rw [List.length_map]; exact ht.most)
  obtain ⟨y, hy, rfl⟩ := List.mem_map.mp hx
  refine Tx.bk ⟨fun c hc => (Zs_few ht).1.1 c (by
    rw [join_toList]
    exact List.mem_flatten.mpr ⟨_, List.mem_map.mpr ⟨y, hy, rfl⟩, hc⟩), by have := ht.six y hy; omega⟩
theorem blsD_mapS {α : Type} (f : α → Bool) : ∀ l : List α, blsD (l.map fun c => D.bl (f c)) = some (l.map f)
  | [] => rfl
  | a :: l => by
    show (blsD (l.map fun c => D.bl (f c))).map (f a :: ·) = _
    rw [blsD_mapS f l]
    rfl
section
variable {C : AH} {P : D → AH → Prop} {tg : List Str}
theorem is_tongue_true (ht : Tongue tg) (k : P (.bl true) C) : s_is_tongue [.tup (strsL tg)] C P := by
  have h := tongue_bk ht
  refine A_k56.T.is_tongue_ok h.1 (Nat.le_trans h.2 (by omega)) ?_
  rw [tgB_true ht]
  exact k
end
end A_k56

namespace A_k56
open PySem L2 AL
open A_k56.H (Sent tree)
def oneS (c : Nat) : Str := ⟨#[c]⟩
theorem join_one (cs : List Nat) : (Txt.join "" (cs.map oneS)).cps.toList = cs := by
  rw [join_toList, List.map_map]
  induction cs with
  | nil => rfl
  | cons c cs ih => rw [List.map_cons, List.flatten_cons, ih]; rfl
theorem one_sum (cs : List Nat) : ((cs.map oneS).map (·.length)).sum = cs.length := by
  induction cs with
  | nil => rfl
  | cons c cs ih =>
    rw [List.map_cons, List.map_cons, List.sum_cons, ih, List.length_cons]
    show 1 + cs.length = _
    omega
theorem join_olen (cs : List Nat) : (Txt.join "" (cs.map oneS)).length = cs.length := by rw [join_len, one_sum]
theorem erase_permN : ∀ (ys : List Nat) (j : Nat) (h : j < ys.length), (ys[j] :: ys.eraseIdx j).Perm ys
  | y :: ys, 0, _ => List.Perm.refl _
  | y :: ys, j + 1, h => by
    have hj : j < ys.length := by simpa using h
    exact (List.Perm.swap y ys[j] (ys.eraseIdx j)).trans ((erase_permN ys j hj).cons y)
theorem map_erase {α β : Type} (f : α → β) : ∀ (ys : List α) (j : Nat), (ys.map f).eraseIdx j = (ys.eraseIdx j).map f
  | [], _ => rfl
  | _ :: _, 0 => rfl
  | y :: ys, j + 1 => by rw [List.map_cons, List.eraseIdx_cons_succ, List.eraseIdx_cons_succ, List.map_cons, map_erase f ys j]
/-- how many sentences stand in one -/
def cnt : Sent → Nat
  | .no s => 1 + cnt s
  | .both s t => 1 + cnt s + cnt t
  | .either s t => 1 + cnt s + cnt t
  | _ => 1
theorem cnt_leaf {tg : List Str} {s : Sent} (h : leafV tg s) : cnt s = 1 := by cases s <;> first | rfl | exact h.elim
theorem sz_cnt {tg : List Str} : ∀ {d : Nat} {s : Sent}, FitV tg d s → sz tg d (tree s) = cnt s
  | 0, _, h => h.elim
  | d + 1, .no s, h => by
    unfold A_k56.sz
    rw [show cls tg (tree (.no s)) = .one (tree s) from rfl]
    show 1 + A_k56.sz tg d (tree s) = 1 + cnt s
    rw [sz_cnt (d := d) (s := s) h]
  | d + 1, .both s t, h => by
    unfold A_k56.sz
    rw [show cls tg (tree (.both s t)) = .two (tree s) (tree t) from rfl]
    show 1 + A_k56.sz tg d (tree s) + A_k56.sz tg d (tree t) = 1 + cnt s + cnt t
    rw [sz_cnt h.1, sz_cnt h.2]
  | d + 1, .either s t, h => by
    unfold A_k56.sz
    rw [show cls tg (tree (.either s t)) = .two (tree s) (tree t) from rfl]
    show 1 + A_k56.sz tg d (tree s) + A_k56.sz tg d (tree t) = 1 + cnt s + cnt t
    rw [sz_cnt h.1, sz_cnt h.2]
  | d + 1, .long lo hi, h => sz_leaf (s := .long lo hi) h d
  | d + 1, .least a b, h => sz_leaf (s := .least a b) h d
  | d + 1, .often a b, h => sz_leaf (s := .often a b) h d
  | d + 1, .apart, h => sz_leaf (s := .apart) h d
  | d + 1, .without a, h => sz_leaf (s := .without a) h d
  | d + 1, .begins a, h => sz_leaf (s := .begins a) h d
  | d + 1, .ends a, h => sz_leaf (s := .ends a) h d
section
variable {C : AH} {P : D → AH → Prop} {tg : List Str}
theorem g_ixO {z : Str} {i : Nat} (hl : z.length ≤ 10000) (hi : i < z.length) (k : ∀ c, c ∈ z.cps.toList → P (.str (oneS c)) C) : aIx (.str z) (.int (i : Int)) C P := by
  have hi' : i < z.cps.toList.length := by rw [AL.len_toList]; exact hi
  show z.length ≤ sizeLine ∧ (match atI z.cps.toList (i : Int) with | some c => P (.str ⟨#[c]⟩) C | none => False)
  refine ⟨by simp only [sizeLine]; omega, ?_⟩
  rw [atI_nat' (List.getElem?_eq_getElem hi')]
  exact k _ (List.getElem_mem hi')
theorem piece_drawn {p : Addr} (ht : Tongue tg) (hp : Pen C p) (k : ∀ w C', Pz tg w 6 → Pen C' p → Oth p C C' → P (.str w) C') : s_law_piece [.ce p, .str (Txt.join "" tg), .int 6] C P := by
  obtain ⟨hz, hz1⟩ := Zs_few ht
  have hz2 := hz.2
  unfold s_law_piece a_law_piece
  walk_at "go"
  refine take_nat (m := 6) hp (by omega) (by omega) fun c u hc hu => ?_
  have hP2 := pen_put (C := C) (p := p) hc
  have hO2 := (Oth.refl p C).pen (c := c)
  generalize put C p c = C2 at hP2 hO2 ⊢
  have e1 : (1 : Int) + (u : Int) = ((u + 1 : Nat) : Int) := by omega
  walk_at "go"
  rw [e1]
  generalize hm : u + 1 = m
  have hm1 : 1 ≤ m ∧ m ≤ 6 := by omega
  have hrl : (rangeD 0 (m : Int).toNat).length = m := by rw [rangeD_len]; rfl
  refine g_kLc (fun j acc C9 => ∃ cs : List Nat, cs.length = j ∧ acc = strsL (cs.map oneS) ∧ (∀ c ∈ cs, c ∈ Zs tg) ∧ Pen C9 p ∧ Oth p C C9) (by rw [hrl]; simp only [sizeLine]; omega) ⟨[], rfl, rfl, by simp, hP2, hO2⟩ (fun j d acc C9 hj hw => ?_) (fun acc C9 hw => ?_)
  · obtain ⟨cs, hcl, rfl, hcs, hP9, hO9⟩ := hw
    walk_at "go"
    refine g_lenS (by simp only [sizeLine]; omega) ?_
    walk_at "go"
    refine take_nat hP9 (by omega) (by omega) fun c v hc hv => ?_
    walk_at "go"
    refine g_ixO (by omega) hv fun a ha => ?_
    refine ⟨cs ++ [a], by simp [hcl], by simp [strsL], ?_, pen_put hc, hO9.pen⟩
    intro b hb
    rcases List.mem_append.mp hb with h | h
    · exact hcs b h
    · rw [List.mem_singleton.mp h]; exact ha
  · obtain ⟨cs, hcl, rfl, hcs, hP9, hO9⟩ := hw
    rw [hrl] at hcl
    walk_at "go"
    refine g_joinE (by rw [one_sum]; omega) ?_
    exact k _ C9 ⟨by rw [join_olen]; omega, by rw [join_olen]; omega, by rw [join_one]; exact hcs⟩ hP9 hO9
theorem plain_drawn {p : Addr} (ht : Tongue tg) (hp : Pen C p) (k : ∀ s C', leafV tg s → Pen C' p → Oth p C C' → P (tree s) C') : s_law_plain [.ce p, .tup (strsL tg)] C P := by
  obtain ⟨hz, hz1⟩ := Zs_few ht
  have hz2 := hz.2
  have hpos := ht.pos
  have hmost := ht.most
  unfold s_law_plain a_law_plain
  walk_at "go"
  refine g_joinET (by have := join_small ht; omega) ?_
  walk_at "go"
  refine take_nat (m := 7) hp (by omega) (by omega) fun c way hc hway => ?_
  have hP := pen_put (C := C) (p := p) hc
  have hO := (Oth.refl p C).pen (c := c)
  generalize put C p c = C1 at hP hO ⊢
  walk_at "go"
  refine g_ifJ (fun st C' => C' = C1 ∧ way ≠ 0 ∧ ∃ x4, st = [some (.ce p), some (.tup (strsL tg)), some (.str (Txt.join "" tg)), some (.int way), x4, none, none, none]) (fun N hN => ?_) (fun st C' hw => ?_)
  · refine g_ifS ?_
    walk_at "go"
    refine g_iteD (fun h => ?_) (fun h => ?_)
    · walk_at "go"
      refine take_nat (m := 31) hP (by omega) (by omega) fun c lo hc hlo => ?_
      have hP2 := pen_put (C := C1) (p := p) hc
      have hO2 := hO.pen (c := c)
      generalize put C1 p c = C2 at hP2 hO2 ⊢
      walk_at "go"
      rw [show (31 : Int) - (lo : Int) = ((31 - lo : Nat) : Int) by omega]
      refine take_nat hP2 (by omega) (by omega) fun c more hc hmore => ?_
      walk_at "go"
      refine take_nat (m := 3) (pen_put hc) (by omega) (by omega) fun c u hc hu => ?_
      rw [put_put]
      walk_at "go"
      cases decide ((u : Int) = 0) with
      | true =>
        refine g_ixL (d := .non) rfl ?_
        walk_at "go"
        exact k (.long lo none) _ (show lo ≤ 30 by omega) (pen_put hc) hO2.pen
      | false =>
        refine g_ixL (d := .int ((lo + more : Nat) : Int)) rfl ?_
        walk_at "go"
        exact k (.long lo (some (lo + more))) _ (show lo ≤ lo + more ∧ lo + more ≤ 30 by omega) (pen_put hc) hO2.pen
    · walk_at "go"
      exact hN _ _ ⟨rfl, by omega, _, rfl⟩
  obtain ⟨rfl, hw0, x4, rfl⟩ := hw
  walk_at "go"
  refine g_ifJ (fun st C2 => C2 = C' ∧ way ≠ 1 ∧ st = [some (.ce p), some (.tup (strsL tg)), some (.str (Txt.join "" tg)), some (.int way), x4, none, none, none]) (fun N hN => ?_) (fun st C2 hw => ?_)
  · refine g_ifS ?_
    walk_at "go"
    refine g_iteD (fun h => ?_) (fun h => ?_)
    · walk_at "go"
      rw [List.length_map]
      refine take_nat hP (by omega) (by omega) fun c kd hc hkd => ?_
      walk_at "go"
      refine take_nat (m := 10) (pen_put hc) (by omega) (by omega) fun c u hc hu => ?_
      rw [put_put]
      walk_at "go"
      exact k (.least kd u) _ (show kd < tg.length ∧ u ≤ 9 by omega) (pen_put hc) hO.pen
    · walk_at "go"
      exact hN _ _ ⟨rfl, by omega, rfl⟩
  obtain ⟨rfl, hw1, rfl⟩ := hw
  walk_at "go"
  refine g_ifJ (fun st C3 => C3 = C2 ∧ way ≠ 2 ∧ st = [some (.ce p), some (.tup (strsL tg)), some (.str (Txt.join "" tg)), some (.int way), x4, none, none, none]) (fun N hN => ?_) (fun st C3 hw => ?_)
  · refine g_ifS ?_
    walk_at "go"
    refine g_iteD (fun h => ?_) (fun h => ?_)
    · walk_at "go"
      refine g_listSM (by show (Txt.join "" tg).length ≤ sizeLine; simp only [sizeLine]; omega) fun q hq => ?_
      have hpq : p ≠ q := by obtain ⟨_, h, _⟩ := hP; exact ne_cell h hq
      have hq0 : C q = none := hO.none hpq.symm hq
      rw [signs_chars, show chars (Txt.join "" tg) = (Zs tg).map oneS from rfl]
      have hZl : (Zs tg).length = (Txt.join "" tg).length := by unfold Zs; rw [AL.len_toList]
      have hZn : (Zs tg).Nodup := by
        have hch : chars (Txt.join "" tg) = (tg.map chars).flatten := by
          unfold chars
          rw [join_toList, List.map_flatten, List.map_map]
          rfl
        have h := ht.unlike
        rw [← hch] at h
        unfold chars at h
        exact (List.pairwise_map.mp h).imp fun hne e => hne (by rw [e])
      have hP2 := hP.other (c := .lst (strsL ((Zs tg).map oneS))) hpq
      have hO2 := hO.put (c := .lst (strsL ((Zs tg).map oneS))) hq0
      have hCq : (put C2 q (.lst (strsL ((Zs tg).map oneS)))) q = some (.lst (strsL ((Zs tg).map oneS))) := put_same
      generalize put C2 q (.lst (strsL ((Zs tg).map oneS))) = C3 at hP2 hO2 hCq ⊢
      walk_at "go"
      refine g_lenS (by simp only [sizeLine]; omega) ?_
      walk_at "go"
      have emo : ∃ mo : Nat, 1 ≤ mo ∧ mo ≤ 4 ∧ mo ≤ (Txt.join "" tg).length ∧ (if ((Txt.join "" tg).length : Int) < 4 then ((Txt.join "" tg).length : Int) else 4) = (mo : Int) := by
        refine ⟨min 4 (Txt.join "" tg).length, by omega, by omega, by omega, ?_⟩
        split <;> omega
      obtain ⟨mo, hmo1, hmo4, hmoz, emo⟩ := emo
      rw [emo]
      refine take_nat hP2 (by omega) (by omega) fun c u hc hu => ?_
      have hP3 := pen_put (C := C3) (p := p) hc
      have hO3 := hO2.pen (c := c)
      have hCq3 := put_other (d := c) hpq.symm hCq
      generalize put C3 p c = C4 at hP3 hO3 hCq3 ⊢
      have e1 : (1 : Int) + (u : Int) = ((u + 1 : Nat) : Int) := by omega
      walk_at "go"
      rw [e1]
      generalize hm : u + 1 = m
      have hm1 : 1 ≤ m ∧ m ≤ mo := by omega
      have hrl : (rangeD 0 (m : Int).toNat).length = m := by rw [rangeD_len]; rfl
      refine g_kLc (fun j acc C9 => ∃ cs ys : List Nat, cs.length = j ∧ acc = strsL (cs.map oneS) ∧ (cs ++ ys).Perm (Zs tg) ∧ C9 q = some (.lst (strsL (ys.map oneS))) ∧ Pen C9 p ∧ Oth p C C9) (by rw [hrl]; simp only [sizeLine]; omega) ⟨[], Zs tg, rfl, rfl, List.Perm.refl _, hCq3, hP3, hO3⟩ (fun j d acc C9 hj hw => ?_) (fun acc C9 hw => ?_)
      · have hj2 : j < m := by have := (List.getElem?_eq_some_iff.mp hj).1; rw [hrl] at this; exact this
        obtain ⟨cs, ys, hcl, rfl, hperm, hCq9, hP9, hO9⟩ := hw
        have hyl : ys.length + j = (Txt.join "" tg).length := by have := hperm.length_eq; rw [List.length_append, hcl, hZl] at this; omega
        walk_at "go"
        rw [List.length_map, List.length_map]
        refine take_nat hP9 (by omega) (by omega) fun c v hc hv => ?_
        walk_at "go"
        refine g_popS (put_other hpq.symm hCq9) (by rw [List.length_map]; exact hv) (by rw [List.length_map]; omega) ?_
        refine ⟨cs ++ [ys[v]], ys.eraseIdx v, by simp [hcl], by simp [strsL], ?_, by rw [put_same, map_erase], (pen_put hc).other hpq, hO9.pen.put hq0⟩
        have : (cs ++ [ys[v]] ++ ys.eraseIdx v).Perm (cs ++ ys) := by
          rw [List.append_assoc]
          exact List.Perm.append_left cs (erase_permN ys v hv)
        exact this.trans hperm
      · obtain ⟨cs, ys, hcl, rfl, hperm, hCq9, hP9, hO9⟩ := hw
        rw [hrl] at hcl
        have hnd := (List.nodup_append.mp (hperm.nodup_iff.mpr hZn)).1
        have hinn : ∀ c ∈ cs, c ∈ Zs tg := fun c hc => hperm.mem_iff.mp (List.mem_append_left _ hc)
        walk_at "go"
        refine g_joinE (by rw [one_sum]; omega) ?_
        walk_at "go"
        refine take_nat (m := 4) hP9 (by omega) (by omega) fun c v hc hv => ?_
        walk_at "go"
        exact k (.often (Txt.join "" (cs.map oneS)) v) _ ⟨⟨by rw [join_olen]; omega, by rw [join_olen]; omega, by rw [join_one]; exact hinn⟩, by rw [join_one]; exact hnd, by omega⟩ (pen_put hc) hO9.pen
    · walk_at "go"
      exact hN _ _ ⟨rfl, by omega, rfl⟩
  obtain ⟨rfl, hw2, rfl⟩ := hw
  walk_at "go"
  refine g_ifJ (fun st C4 => C4 = C3 ∧ way ≠ 3 ∧ st = [some (.ce p), some (.tup (strsL tg)), some (.str (Txt.join "" tg)), some (.int way), x4, none, none, none]) (fun N hN => ?_) (fun st C4 hw => ?_)
  · refine g_ifS ?_
    walk_at "go"
    refine g_iteD (fun h => ?_) (fun h => ?_)
    · walk_at "go"
      exact k .apart _ trivial hP hO
    · walk_at "go"
      exact hN _ _ ⟨rfl, by omega, rfl⟩
  obtain ⟨rfl, hw3, rfl⟩ := hw
  walk_at "go"
  have : ∃ x : Str, (∀ own, Pz tg own 6 → ∃ s, leafV tg s ∧ tree s = .tup [.str x, .str own]) ∧ atI [D.str "without", D.str "begins", D.str "ends"] ((way : Int) - 4) = some (.str x) := by
    have : way = 4 ∨ way = 5 ∨ way = 6 := by omega
    rcases this with rfl | rfl | rfl
    · exact ⟨"without", fun own h => ⟨.without own, h, rfl⟩, rfl⟩
    · exact ⟨"begins", fun own h => ⟨.begins own, h, rfl⟩, rfl⟩
    · exact ⟨"ends", fun own h => ⟨.ends own, h, rfl⟩, rfl⟩
  obtain ⟨x, hx, hat⟩ := this
  refine g_ixL hat ?_
  walk_at "go"
  refine piece_drawn ht hP fun w C5 hw hP5 hO5 => ?_
  walk_at "go"
  obtain ⟨s, hs, e⟩ := hx w hw
  rw [← e]
  exact k s _ hs hP5 (hO.trans hO5)
def Room (C : AH) (r : Addr) (z : Nat) : Prop := C r = some (.lst [.int z])
/-- but for two cells all stays -/
def Oth2 (p r : Addr) (C C' : AH) : Prop := ∀ a c, a ≠ p → a ≠ r → C a = some c → C' a = some c
theorem oth_two {p r : Addr} {C C' : AH} (h : Oth p C C') : Oth2 p r C C' := fun a c h1 _ h3 => h a c h1 h3
theorem Oth2.trans {p r : Addr} {C C1 C2 : AH} (a : Oth2 p r C C1) (b : Oth2 p r C1 C2) : Oth2 p r C C2 := fun x c h1 h2 h3 => b x c h1 h2 (a x c h1 h2 h3)
theorem Oth2.put {p r : Addr} {C C' : AH} {c : Cell} (h : Oth2 p r C C') : Oth2 p r C (AL.put C' r c) := fun x d h1 h2 h3 => by rw [put_ne h2]; exact h x d h1 h2 h3
theorem sentence_drawn (ht : Tongue tg) : ∀ (d m : Nat) (C : AH) (P : D → AH → Prop) (p r : Addr) (z : Nat), d ≤ 3 → d < m → z ≤ 8 → p ≠ r → Pen C p → Room C r z →
    (∀ s C' z', FitV tg (d + 1) s → cnt s + z' ≤ 1 + z → Pen C' p → Room C' r z' → Oth2 p r C C' → P (tree s) C') → s_law_sentence m [.ce p, .tup (strsL tg), .int ((4 - d : Nat) : Int), .ce r] C P := by
  intro d
  induction d with
  | zero =>
    intro m C P p r z hd hm hz hpr hP hR k
    obtain ⟨m, rfl⟩ : ∃ m', m = m' + 1 := ⟨m - 1, by omega⟩
    show aBody _ (a_law_sentence (s_law_sentence m)) _ C P
    unfold a_law_sentence
    walk_at "go"
    refine take_nat (m := 5) hP (by omega) (by omega) fun c way hc hway => ?_
    have hP2 := pen_put (C := C) (p := p) hc
    have hR2 : Room (put C p c) r z := put_other hpr.symm hR
    have hO2 := (Oth.refl p C).pen (c := c)
    generalize put C p c = C2 at hP2 hR2 hO2 ⊢
    walk_at "go"
    refine g_ifT (fun K hK => ?_) ?_
    · walk_at "go"
      rw [show decide (((4 - 0 : Nat) : Int) = 4) = true from rfl]
      walk_at "go"
      exact hK
    walk_at "go"
    refine plain_drawn ht hP2 fun s C3 hs hP3 hO3 => ?_
    exact k s C3 z (leaf_fitV hs) (by have := cnt_leaf hs; omega) hP3 (hO3 _ _ hpr.symm hR2) (oth_two (hO2.trans hO3))
  | succ d ih =>
    intro m C P p r z hd hm hz hpr hP hR k
    obtain ⟨m, rfl⟩ : ∃ m', m = m' + 1 := ⟨m - 1, by omega⟩
    show aBody _ (a_law_sentence (s_law_sentence m)) _ C P
    unfold a_law_sentence
    walk_at "go"
    refine take_nat (m := 5) hP (by omega) (by omega) fun c way hc hway => ?_
    have hP2 := pen_put (C := C) (p := p) hc
    have hR2 : Room (put C p c) r z := put_other hpr.symm hR
    have hO2 := (Oth.refl p C).pen (c := c)
    generalize put C p c = C2 at hP2 hR2 hO2 ⊢
    walk_at "go"
    refine g_ifJ (fun st C' => C' = C2 ∧ way ≤ 2 ∧ 1 ≤ z ∧ st = [some (.ce p), some (.tup (strsL tg)), some (.int ((4 - (d + 1) : Nat) : Int)), some (.ce r), some (.int way), none]) (fun N hN => ?_) (fun st C' hw => ?_)
    · refine g_ifS ?_
      have pl : ∀ N2 : ASt → AH → Prop, aRet (aCall s_law_plain (aCons (aVar 0) (aCons (aVar 1) (aNil)))) ⟨N2, P, fun _ _ => False, fun _ _ => False⟩ [some (.ce p), some (.tup (strsL tg)), some (.int ((4 - (d + 1) : Nat) : Int)), some (.ce r), some (.int way), none] C2 := by
        intro N2
        walk_at "go"
        refine plain_drawn ht hP2 fun s C3 hs hP3 hO3 => ?_
        exact k s C3 z (leaf_fitV hs) (by have := cnt_leaf hs; omega) hP3 (hO3 _ _ hpr.symm hR2) (oth_two (hO2.trans hO3))
      walk_at "go"
      rw [show decide (((4 - (d + 1) : Nat) : Int) = 4) = false from decide_eq_false (by omega)]
      walk_at "go"
      refine g_iteD (fun h => ?_) (fun h => ?_)
      · exact g_iteT (pl _)
      · walk_at "go"
        refine g_ixC hR2 ?_
        walk_at "go"
        refine g_iteD (fun h2 => ?_) (fun h2 => ?_)
        · exact pl _
        · walk_at "go"
          exact hN _ _ ⟨rfl, by omega, by omega, rfl⟩
    obtain ⟨rfl, hw2, hz1, rfl⟩ := hw
    have deep : ((4 - (d + 1) : Nat) : Int) + 1 = ((4 - d : Nat) : Int) := by omega
    walk_at "go"
    refine g_ifJ (fun st C3 => C3 = C' ∧ 1 ≤ way ∧ 2 ≤ z ∧ st = [some (.ce p), some (.tup (strsL tg)), some (.int ((4 - (d + 1) : Nat) : Int)), some (.ce r), some (.int way), none]) (fun N hN => ?_) (fun st C3 hw => ?_)
    · refine g_ifS ?_
      have no1 : ∀ N2 : ASt → AH → Prop, aSeq (aAsg (aOp aSub (aOp aIx (aVar 3) (aC (.int 0))) (aC (.int 1))) (aGSet (aVar 3) (aC (.int 0)))) (aRet (aTup (aCons (aC (.str "not")) (aCons (aCall (s_law_sentence m) (aCons (aVar 0) (aCons (aVar 1) (aCons (aOp aAdd (aVar 2) (aC (.int 1))) (aCons (aVar 3) (aNil)))))) (aNil))))) ⟨N2, P, fun _ _ => False, fun _ _ => False⟩ [some (.ce p), some (.tup (strsL tg)), some (.int ((4 - (d + 1) : Nat) : Int)), some (.ce r), some (.int way), none] C' := by
        intro N2
        walk_at "go"
        refine g_ixC hR2 ?_
        walk_at "go"
        refine g_kSet (k := 0) (us := [.int z]) hR2 rfl ?_
        walk_at "go"
        rw [deep]
        have hP3 := hP2.other (c := .lst [.int ((z - 1 : Nat) : Int)]) hpr
        have e : (put C' r (.lst ([D.int (z : Int)].set 0 (.int ((z : Int) - 1))))) = put C' r (.lst [.int ((z - 1 : Nat) : Int)]) := by
          rw [show ((z : Int) - 1) = ((z - 1 : Nat) : Int) by omega]
          rfl
        rw [e]
        refine ih m _ _ p r (z - 1) (by omega) (by omega) (by omega) hpr hP3 put_same fun s C4 z' hs hc4 hP4 hR4 hO4 => ?_
        walk_at "go"
        exact k (.no s) C4 z' hs (by show 1 + cnt s + z' ≤ 1 + z; omega) hP4 hR4 (((oth_two hO2).put).trans hO4)
      walk_at "go"
      refine g_iteD (fun h => ?_) (fun h => ?_)
      · exact g_iteT (no1 _)
      · walk_at "go"
        refine g_ixC hR2 ?_
        walk_at "go"
        refine g_iteD (fun h2 => ?_) (fun h2 => ?_)
        · exact no1 _
        · walk_at "go"
          exact hN _ _ ⟨rfl, by omega, by omega, rfl⟩
    obtain ⟨rfl, hw1, hz2, rfl⟩ := hw
    walk_at "go"
    refine g_ixC hR2 ?_
    walk_at "go"
    refine g_kSet (k := 0) (us := [.int z]) hR2 rfl ?_
    have e : (put C3 r (.lst ([D.int (z : Int)].set 0 (.int ((z : Int) - 2))))) = put C3 r (.lst [.int ((z - 2 : Nat) : Int)]) := by
      rw [show ((z : Int) - 2) = ((z - 2 : Nat) : Int) by omega]
      rfl
    rw [e]
    have hP3 := hP2.other (c := .lst [.int ((z - 2 : Nat) : Int)]) hpr
    have hO3 : Oth2 p r C (put C3 r (.lst [.int ((z - 2 : Nat) : Int)])) := (oth_two hO2).put
    have hR3 : Room (put C3 r (.lst [.int ((z - 2 : Nat) : Int)])) r (z - 2) := put_same
    generalize put C3 r (.lst [.int ((z - 2 : Nat) : Int)]) = C4 at hP3 hO3 hR3 ⊢
    walk_at "go"
    rw [deep]
    refine ih m _ _ p r (z - 2) (by omega) (by omega) (by omega) hpr hP3 hR3 fun s C5 z5 hs hc5 hP5 hR5 hO5 => ?_
    walk_at "go"
    have : ∃ x : Str, (∀ a b, ∃ t, (FitV tg (d + 1) a → FitV tg (d + 1) b → FitV tg (d + 1 + 1) t) ∧ cnt t = 1 + cnt a + cnt b ∧ tree t = .tup [.str x, tree a, tree b]) ∧ atI [D.str "both", D.str "either"] ((way : Int) - 1) = some (.str x) := by
      have : way = 1 ∨ way = 2 := by omega
      rcases this with rfl | rfl
      · exact ⟨"both", fun a b => ⟨.both a b, fun h g => ⟨h, g⟩, rfl, rfl⟩, rfl⟩
      · exact ⟨"either", fun a b => ⟨.either a b, fun h g => ⟨h, g⟩, rfl, rfl⟩, rfl⟩
    obtain ⟨x, hx, hat⟩ := this
    refine g_ixL hat ?_
    walk_at "go"
    rw [deep]
    refine ih m _ _ p r z5 (by omega) (by omega) (by omega) hpr hP5 hR5 fun t C6 z6 ht' hc6 hP6 hR6 hO6 => ?_
    walk_at "go"
    obtain ⟨u, hu, hcu, e⟩ := hx s t
    rw [← e]
    exact k u C6 z6 (hu hs ht') (by omega) hP6 hR6 ((hO3.trans hO5).trans hO6)
end
end A_k56

namespace A_k56
open PySem L2 AL
open A_k56.H (Sent tree)
def numS (n : Nat) : Str := Str.ofString (toString (n : Int))
def hiS : Option Nat → Str | none => "-" | some h => numS h
def wordsT : Sent → List Str
  | .long lo hi => ["long", numS lo, hiS hi]
  | .least k m => ["least", numS k, numS m]
  | .often own m => ["often", own, numS m]
  | .apart => ["apart"]
  | .without own => ["without", own]
  | .begins own => ["begins", own]
  | .ends own => ["ends", own]
  | .no s => "not" :: wordsT s
  | .both s t => "both" :: (wordsT s ++ wordsT t)
  | .either s t => "either" :: (wordsT s ++ wordsT t)
def sentT (s : Sent) : Str := Txt.join " " (wordsT s)
theorem blank : (" " : Str) = ⟨#[32]⟩ := by decide +kernel
theorem feed : ("\n" : Str) = ⟨#[10]⟩ := by decide +kernel
theorem one_blank : (" " : Str).length = 1 := by decide +kernel
theorem one_feed : ("\n" : Str).length = 1 := by decide +kernel
def numB (n : Nat) : Bool :=
  decide ((numS n).length = 1 ∨ (numS n).length = 2) && (numS n).cps.toList.all (fun c => decide (c ∈ ("0123456789" : Str).cps.toList)) && (decide ((numS n).length = 1) || !decide ((numS n).cps.toList[0]? = some 48)) && decide (PySem.intText? (numS n) = some (n : Int)) && (numS n).cps.toList.all (fun c => decide (33 ≤ c)) && decide (1 ≤ (numS n).cps.toList.length) && !decide (numS n = "-")
theorem num_all : ((List.range 31).all numB) = true := by decide +kernel
theorem num_ok {n : Nat} (hn : n ≤ 30) : numB n = true := List.all_eq_true.mp num_all n (List.mem_range.mpr (by omega))
theorem num_short {n : Nat} (hn : n ≤ 30) : (numS n).length ≤ 2 := by
  have hB := num_ok hn
  unfold numB at hB
  simp only [Bool.and_eq_true, decide_eq_true_eq, Bool.or_eq_true] at hB
  have := hB.1.1.1.1.1.1
  omega
theorem num_free {n : Nat} (hn : n ≤ 30) : ∀ c ∈ (numS n).cps.toList, 33 ≤ c := by
  have hB := num_ok hn
  unfold numB at hB
  simp only [Bool.and_eq_true, decide_eq_true_eq, Bool.or_eq_true, List.all_eq_true] at hB
  exact hB.1.1.2
theorem strExt {a b : Str} (h : a.cps.toList = b.cps.toList) : a = b := by
  cases a; cases b
  exact congrArg Str.mk (Array.toList_inj.mp h)
theorem app_toList (a b : Str) : (a ++ b).cps.toList = a.cps.toList ++ b.cps.toList := TL.tl_append a b
theorem app_len (a b : Str) : (a ++ b).length = a.length + b.length := by rw [← AL.len_toList, app_toList, List.length_append, AL.len_toList, AL.len_toList]
theorem join_app {c : Nat} {x y : Str} {A B : List Str} : Txt.join ⟨#[c]⟩ ((x :: A) ++ (y :: B)) = Txt.join ⟨#[c]⟩ (x :: A) ++ ⟨#[c]⟩ ++ Txt.join ⟨#[c]⟩ (y :: B) := by
  refine strExt ?_
  rw [TL.join_eq, TL.join_eq, TL.join_eq, app_toList, app_toList, joinOne, joinOne, List.cons_append, joinOne]
  simp only [List.map_append, List.flatten_append, List.map_cons, List.flatten_cons]
  simp
theorem join_snoc {x y : Str} {A B : List Str} : Txt.join " " (x :: (A ++ (y :: B))) = Txt.join " " (x :: A) ++ " " ++ Txt.join " " (y :: B) := by
  rw [blank]
  exact join_app (A := A)
theorem join_sole (y : Str) : Txt.join " " [y] = y := by
  refine strExt ?_
  rw [blank, TL.join_eq, joinOne]
  simp
theorem join_one_len (c : Nat) : ∀ ys : List Str, (Txt.join ⟨#[c]⟩ ys).length ≤ (ys.map (·.length)).sum + ys.length := by
  intro ys
  rw [← AL.len_toList, TL.join_eq, joinOne]
  cases ys with
  | nil => simp
  | cons y r =>
    rw [List.length_append, List.map_cons, List.sum_cons, List.length_cons, List.length_flatten, List.map_map]
    have : ∀ r : List Str, (r.map (List.length ∘ fun z => c :: z.cps.toList)).sum = (r.map (·.length)).sum + r.length := by
      intro r
      induction r with
      | nil => rfl
      | cons z r ih =>
        rw [List.map_cons, List.sum_cons, ih, List.map_cons, List.sum_cons, List.length_cons]
        show (z.cps.toList.length + 1) + _ = _
        rw [AL.len_toList]
        omega
    rw [this]
    have := AL.len_toList y
    omega
theorem sum_le {m : Nat} : ∀ {ys : List Str}, (∀ y ∈ ys, y.length ≤ m) → (ys.map (·.length)).sum ≤ m * ys.length
  | [], _ => by simp
  | y :: ys, h => by
    rw [List.map_cons, List.sum_cons, List.length_cons, Nat.mul_succ]
    have := sum_le (ys := ys) fun z hz => h z (List.mem_cons_of_mem _ hz)
    have := h y List.mem_cons_self
    omega
theorem joined_len {ys : List Str} {m n : Nat} (h : ∀ y ∈ ys, y.length ≤ m) (hn : ys.length ≤ n) : (Txt.join " " ys).length ≤ m * n + n := by
  rw [blank]
  have := join_one_len 32 ys
  have := sum_le h
  have : m * ys.length ≤ m * n := Nat.mul_le_mul_left _ hn
  omega
/-- what may be a word of a sentence's text -/
def Wok (y : Str) : Prop := y.length ≤ 7 ∧ (∀ c ∈ y.cps.toList, 33 ≤ c) ∧ okS y
theorem wok_lit {y : Str} (h : (decide (y.length ≤ 7) && y.cps.toList.all fun c => decide (33 ≤ c) && decide (c < 128)) = true) : Wok y := by
  simp only [Bool.and_eq_true, decide_eq_true_eq, List.all_eq_true] at h
  exact ⟨h.1, fun c hc => (h.2 c hc).1, fun c hc => by have := (h.2 c hc).2; omega⟩
theorem numL : ((List.range 31).all fun n => decide ((numS n).length ≤ 7) && (numS n).cps.toList.all fun c => decide (33 ≤ c) && decide (c < 128)) = true := by decide +kernel
theorem wok_num {n : Nat} (hn : n ≤ 30) : Wok (numS n) := wok_lit (List.all_eq_true.mp numL n (List.mem_range.mpr (by omega)))
theorem zs_good {tg : List Str} (ht : Tongue tg) : ∀ c ∈ Zs tg, 33 ≤ c ∧ c < 128 := fun c hc => by
  have hch : chars (Txt.join "" tg) = (tg.map chars).flatten := by
    unfold chars
    rw [join_toList, List.map_flatten, List.map_map]
    rfl
  have h := ht.good
  rw [← hch] at h
  obtain ⟨c', hc', e⟩ := h ⟨#[c]⟩ (List.mem_map.mpr ⟨c, hc, rfl⟩)
  have : c = c' := by
    have := congrArg (fun z : Str => z.cps.toList) e
    simpa using this
  rw [this]
  exact goodB_lt hc'
theorem Pz.wok {tg : List Str} (ht : Tongue tg) {own : Str} {m : Nat} (h : Pz tg own m) (hm : m ≤ 7) : Wok own :=
  ⟨by have := h.len; omega, fun c hc => (zs_good ht c (h.inn c hc)).1, Pz.ok ht h⟩
theorem wok_hi {hi : Option Nat} (h : ∀ x, hi = some x → x ≤ 30) : Wok (hiS hi) := by
  cases hi with
  | none => exact wok_lit (by decide +kernel)
  | some x => exact wok_num (h x rfl)
/-- a part, and its words -/
inductive Pt (tg : List Str) (d : Nat) : D → List Str → Prop
  | non : Pt tg d .non ["-"]
  | num {n : Nat} : n ≤ 30 → Pt tg d (.int n) [numS n]
  | str {z : Str} : Wok z → Pt tg d (.str z) [z]
  | sen {s : Sent} : FitV tg d s → Pt tg d (tree s) (wordsT s)
structure Prts (tg : List Str) (d : Nat) (s : Sent) (h : Str) (ps : List (D × List Str)) : Prop where
  tr : tree s = .tup (.str h :: ps.map (·.1))
  ws : wordsT s = h :: (ps.map (·.2)).flatten
  few : ps.length ≤ 2
  head : Wok h
  pt : ∀ p ∈ ps, Pt tg d p.1 p.2
theorem prts_of {tg : List Str} (ht : Tongue tg) {d : Nat} {s : Sent} (h : FitV tg (d + 1) s) : ∃ hd ps, Prts tg d s hd ps := by
  have l1 : ∀ {a : D × List Str}, Pt tg d a.1 a.2 → ∀ p ∈ [a], Pt tg d p.1 p.2 := fun ha p hp => by rw [List.mem_singleton.mp hp]; exact ha
  have l2 : ∀ {a b : D × List Str}, Pt tg d a.1 a.2 → Pt tg d b.1 b.2 → ∀ p ∈ [a, b], Pt tg d p.1 p.2 := fun ha hb p hp => by
    simp only [List.mem_cons, List.not_mem_nil, or_false] at hp
    rcases hp with rfl | rfl
    · exact ha
    · exact hb
  have hm := ht.most
  cases s with
  | long lo hi =>
    cases hi with
    | none =>
      have h : lo ≤ 30 := h
      exact ⟨"long", [(.int lo, [numS lo]), (.non, ["-"])], rfl, rfl, by simp, wok_lit (by decide +kernel), l2 (.num h) .non⟩
    | some x =>
      have h : lo ≤ x ∧ x ≤ 30 := h
      exact ⟨"long", [(.int lo, [numS lo]), (.int x, [numS x])], rfl, rfl, by simp, wok_lit (by decide +kernel), l2 (.num (by omega)) (.num h.2)⟩
  | least k m =>
    have h : k < tg.length ∧ m ≤ 9 := h
    exact ⟨"least", [(.int k, [numS k]), (.int m, [numS m])], rfl, rfl, by simp, wok_lit (by decide +kernel), l2 (.num (by omega)) (.num (by omega))⟩
  | often own m =>
    obtain ⟨h1, h2, h3⟩ := h
    exact ⟨"often", [(.str own, [own]), (.int m, [numS m])], rfl, rfl, by simp, wok_lit (by decide +kernel), l2 (.str (h1.wok ht (by omega))) (.num (by omega))⟩
  | apart => exact ⟨"apart", [], rfl, rfl, by simp, wok_lit (by decide +kernel), by simp⟩
  | without own => exact ⟨"without", [(.str own, [own])], rfl, rfl, by simp, wok_lit (by decide +kernel), l1 (.str (Pz.wok ht h (by omega)))⟩
  | begins own => exact ⟨"begins", [(.str own, [own])], rfl, rfl, by simp, wok_lit (by decide +kernel), l1 (.str (Pz.wok ht h (by omega)))⟩
  | ends own => exact ⟨"ends", [(.str own, [own])], rfl, rfl, by simp, wok_lit (by decide +kernel), l1 (.str (Pz.wok ht h (by omega)))⟩
  | no s => exact ⟨"not", [(tree s, wordsT s)], rfl, by simp [wordsT], by simp, wok_lit (by decide +kernel), l1 (.sen h)⟩
  | both s t => exact ⟨"both", [(tree s, wordsT s), (tree t, wordsT t)], rfl, by simp [wordsT], by simp, wok_lit (by decide +kernel), l2 (.sen h.1) (.sen h.2)⟩
  | either s t => exact ⟨"either", [(tree s, wordsT s), (tree t, wordsT t)], rfl, by simp [wordsT], by simp, wok_lit (by decide +kernel), l2 (.sen h.1) (.sen h.2)⟩
theorem words_len {tg : List Str} : ∀ {d : Nat} {s : Sent}, FitV tg d s → (wordsT s).length + 1 ≤ 4 * 2 ^ d
  | 0, _, h => h.elim
  | d + 1, .no s, h => by
    have := words_len (d := d) (s := s) h
    show (wordsT s).length + 1 + 1 ≤ 4 * 2 ^ (d + 1)
    have := Nat.one_le_two_pow (n := d)
    rw [Nat.pow_succ]; omega
  | d + 1, .both s t, h => by
    have := words_len h.1
    have := words_len h.2
    show (wordsT s ++ wordsT t).length + 1 + 1 ≤ 4 * 2 ^ (d + 1)
    rw [List.length_append, Nat.pow_succ]; omega
  | d + 1, .either s t, h => by
    have := words_len h.1
    have := words_len h.2
    show (wordsT s ++ wordsT t).length + 1 + 1 ≤ 4 * 2 ^ (d + 1)
    rw [List.length_append, Nat.pow_succ]; omega
  | d + 1, .long _ _, _ => by have := Nat.one_le_two_pow (n := d + 1); show 4 ≤ _; omega
  | d + 1, .least _ _, _ => by have := Nat.one_le_two_pow (n := d + 1); show 4 ≤ _; omega
  | d + 1, .often _ _, _ => by have := Nat.one_le_two_pow (n := d + 1); show 4 ≤ _; omega
  | d + 1, .apart, _ => by have := Nat.one_le_two_pow (n := d + 1); show 2 ≤ _; omega
  | d + 1, .without _, _ => by have := Nat.one_le_two_pow (n := d + 1); show 3 ≤ _; omega
  | d + 1, .begins _, _ => by have := Nat.one_le_two_pow (n := d + 1); show 3 ≤ _; omega
  | d + 1, .ends _, _ => by have := Nat.one_le_two_pow (n := d + 1); show 3 ≤ _; omega
theorem words_63 {tg : List Str} {d : Nat} {s : Sent} (h : FitV tg d s) (hd : d ≤ 4) : (wordsT s).length ≤ 63 := by
  have := words_len h
  have : 2 ^ d ≤ 2 ^ 4 := Nat.pow_le_pow_right (by omega) hd
  omega
theorem words_ok {tg : List Str} (ht : Tongue tg) : ∀ {d : Nat} {s : Sent}, FitV tg d s → ∀ y ∈ wordsT s, Wok y := by
  intro d
  induction d with
  | zero => intro s h; exact h.elim
  | succ d ih =>
    intro s h y hy
    obtain ⟨hd, ps, hp⟩ := prts_of ht h
    rw [hp.ws] at hy
    rcases List.mem_cons.mp hy with e | e
    · rw [e]; exact hp.head
    · obtain ⟨l, hl, hy⟩ := List.mem_flatten.mp e
      obtain ⟨p, hpm, rfl⟩ := List.mem_map.mp hl
      have := hp.pt p hpm
      generalize p.1 = a at this
      generalize p.2 = b at this hy
      cases this with
      | non => rw [List.mem_singleton.mp hy]; exact wok_lit (by decide +kernel)
      | num h => rw [List.mem_singleton.mp hy]; exact wok_num h
      | str h => rw [List.mem_singleton.mp hy]; exact h
      | sen h => exact ih h y hy
theorem words_ne (s : Sent) : ∃ x A, wordsT s = x :: A := by cases s <;> exact ⟨_, _, rfl⟩
theorem sent_len {tg : List Str} (ht : Tongue tg) {d : Nat} {s : Sent} (h : FitV tg d s) (hd : d ≤ 4) : (sentT s).length ≤ 504 := joined_len (m := 7) (n := 63) (fun y hy => (words_ok ht h y hy).1) (words_63 h hd)
/-- the words of a sentence's first parts -/
def upto (h : Str) (ps : List (D × List Str)) (i : Nat) : List Str := h :: ((ps.take i).map (·.2)).flatten
theorem upto_succ {h : Str} {ps : List (D × List Str)} {i : Nat} {p : D × List Str} (e : ps[i]? = some p) : upto h ps (i + 1) = upto h ps i ++ p.2 := by
  unfold upto
  rw [List.take_add_one, e]
  simp
theorem upto_all {h : Str} {ps : List (D × List Str)} : upto h ps ps.length = h :: (ps.map (·.2)).flatten := by unfold upto; rw [List.take_length]
theorem upto_le {tg : List Str} {d : Nat} {s : Sent} {h : Str} {ps : List (D × List Str)} (hp : Prts tg d s h ps) (i : Nat) : (upto h ps i).length ≤ (wordsT s).length ∧ ∀ y ∈ upto h ps i, y ∈ wordsT s := by
  rw [hp.ws]
  have e : (ps.map (·.2)).flatten = ((ps.take i).map (·.2)).flatten ++ ((ps.drop i).map (·.2)).flatten := by
    rw [← List.flatten_append, ← List.map_append, List.take_append_drop]
  unfold upto
  rw [e]
  refine ⟨by simp, fun y hy => ?_⟩
  rcases List.mem_cons.mp hy with q | q
  · rw [q]; exact List.mem_cons_self
  · exact List.mem_cons_of_mem _ (List.mem_append_left _ q)
theorem join_upto {h : Str} {ps : List (D × List Str)} {i : Nat} {y : Str} {B : List Str} : Txt.join " " (upto h ps i ++ (y :: B)) = Txt.join " " (upto h ps i) ++ " " ++ Txt.join " " (y :: B) := by
  unfold upto
  rw [List.cons_append]
  exact join_snoc
section
variable {C : AH} {P : D → AH → Prop} {tg : List Str}
theorem g_cutD1 {us : List D} {x : D} (k : P (.tup us) C) : aCut (.tup (x :: us)) (some 1) none C P := by
  show P (.tup (cutD (x :: us) (some ((1 : Nat) : Int)) none)) C
  rw [cutD_drop]
  exact k
theorem g_strAn {n : Nat} (hn : n ≤ 1000) (h : P (.str (numS n)) C) : aStrA [.int (n : Int)] C P := by
  refine ⟨?_, h⟩
  have : ((n : Int)).natAbs = n := by omega
  rw [this]
  exact Nat.lt_of_le_of_lt (Nat.log2_le_self n) (by omega)
theorem g_strAs {z : Str} (h : P (.str z) C) : aStrA [.str z] C P := h
theorem tree_tup (s : Sent) : ∃ us, tree s = .tup us := by cases s <;> exact ⟨_, rfl⟩
theorem dash : (" -" : Str) = " " ++ "-" := by decide +kernel
theorem show_ok (ht : Tongue tg) : ∀ (d : Nat) (s : Sent), FitV tg d s → d ≤ 4 → ∀ (m : Nat) (C : AH) (P : D → AH → Prop), d ≤ m → P (.str (sentT s)) C → s_show_sentence m [tree s] C P := by
  intro d
  induction d with
  | zero => intro s h; exact h.elim
  | succ d ih =>
    intro s h hd m C P hm k
    obtain ⟨m, rfl⟩ : ∃ m', m = m' + 1 := ⟨m - 1, by omega⟩
    show aBody _ (a_show_sentence (s_show_sentence m)) _ C P
    unfold a_show_sentence
    obtain ⟨hd', ps, hp⟩ := prts_of ht h
    have h63 := words_63 h hd
    have hwok := words_ok ht h
    have hlen : ∀ i, (Txt.join " " (upto hd' ps i)).length ≤ 504 := fun i => joined_len (m := 7) (n := 63) (fun y hy => (hwok y ((upto_le hp i).2 y hy)).1) (Nat.le_trans (upto_le hp i).1 h63)
    rw [hp.tr]
    walk_at "go"
    refine g_cutD1 ?_
    walk_at "go"
    refine g_kForL (fun i st C' => C' = C ∧ ∃ x2, st = [some (.tup (.str hd' :: ps.map (·.1))), some (.str (Txt.join " " (upto hd' ps i))), x2]) ⟨rfl, none, by rw [show upto hd' ps 0 = [hd'] from rfl, join_sole]⟩ (fun i x st C' hi hw => ?_) (fun st C' hw => ?_)
    · obtain ⟨rfl, x2, rfl⟩ := hw
      rw [List.getElem?_map] at hi
      cases e : ps[i]? with
      | none => rw [e] at hi; cases hi
      | some p =>
        rw [e] at hi
        cases hi
        have hpt := hp.pt p (List.mem_of_getElem? e)
        have hS := upto_succ (h := hd') e
        have hl := hlen i
        have hl1 := hlen (i + 1)
        show aIfS _ _ _ _ [some (.tup (.str hd' :: ps.map (·.1))), some (.str (Txt.join " " (upto hd' ps i))), some p.1] C'
        generalize p.1 = a at hpt
        generalize hb : p.2 = b at hpt
        rw [hb] at hS
        have hla : (Txt.join " " (upto hd' ps i) ++ " ").length ≤ 505 := by rw [app_len, one_blank]; omega
        cases hpt with
        | non =>
          rw [hS, join_upto, join_sole]
          refine g_ifF (fun K hK => ?_) ?_
          · walk_at "go"
            exact hK
          refine g_ifT (fun K hK => ?_) ?_
          · walk_at "go"
            exact hK
          walk_at "go"
          refine g_addS (by rw [show (" -" : Str).length = 2 by decide +kernel]; simp only [sizeLine]; omega) ?_
          walk_at "go"
          exact ⟨rfl, _, by rw [dash]; congr 3⟩
        | @num n hn =>
          rw [hS, join_upto, join_sole]
          refine g_ifF (fun K hK => ?_) ?_
          · walk_at "go"
            exact hK
          refine g_ifF (fun K hK => ?_) ?_
          · walk_at "go"
            exact hK
          walk_at "go"
          refine g_addS (by rw [one_blank]; simp only [sizeLine]; omega) ?_
          walk_at "go"
          refine g_strAn (by omega) ?_
          have := num_short hn
          refine g_addS (by simp only [sizeLine]; omega) ?_
          walk_at "go"
          exact ⟨rfl, _, rfl⟩
        | @str z hz =>
          rw [hS, join_upto, join_sole]
          refine g_ifF (fun K hK => ?_) ?_
          · walk_at "go"
            exact hK
          refine g_ifF (fun K hK => ?_) ?_
          · walk_at "go"
            exact hK
          walk_at "go"
          refine g_addS (by rw [one_blank]; simp only [sizeLine]; omega) ?_
          walk_at "go"
          refine g_strAs ?_
          have := hz.1
          refine g_addS (by simp only [sizeLine]; omega) ?_
          walk_at "go"
          exact ⟨rfl, _, rfl⟩
        | @sen t hF =>
          obtain ⟨y, A, hy⟩ := words_ne t
          rw [hS, hy, join_upto, ← hy]
          obtain ⟨us, hus⟩ := tree_tup t
          refine g_ifT (fun K hK => ?_) ?_
          · walk_at "go"
            refine g_kIsi (t := "tuple") (by rw [hus]; rfl) ?_
            exact g_kTruB hK
          walk_at "go"
          refine g_addS (by rw [one_blank]; simp only [sizeLine]; omega) ?_
          walk_at "go"
          refine ih t hF (by omega) m _ _ (by omega) ?_
          have := sent_len ht hF (by omega)
          refine g_addS (by simp only [sizeLine]; omega) ?_
          walk_at "go"
          exact ⟨rfl, _, rfl⟩
    · obtain ⟨rfl, x2, rfl⟩ := hw
      rw [List.length_map, upto_all, ← hp.ws]
      walk_at "go"
      exact k
end
end A_k56

namespace A_k56
open PySem L2 AL
open A_k56.H (Sent tree)
section
variable {C : AH} {P : D → AH → Prop} {tg : List Str}
theorem g_addMC' {p : Addr} {i j : List D} (h0 : C p = some (.lst i)) (h1 : i.length + j.length ≤ sizeLine) (h : ∀ q, C q = none → P (.ce q) (put C q (.lst (i ++ j)))) : aAddM (.ce p) (.lst j) C P := ⟨i, j, by simp [asL, h0], rfl, h1, h⟩
theorem law_words_ok (ht : Tongue tg) : ∀ (d : Nat) (s : Sent), FitV tg d s → d ≤ 4 → ∀ (m : Nat) (C : AH) (P : D → AH → Prop), d ≤ m → (∀ C', Keep C C' → P (.lst (strsL (wordsT s))) C') → s_law_words m [tree s] C P := by
  intro d
  induction d with
  | zero => intro s h; exact h.elim
  | succ d ih =>
    intro s h hd m C P hm k
    obtain ⟨m, rfl⟩ : ∃ m', m = m' + 1 := ⟨m - 1, by omega⟩
    show aBody _ (a_law_words (s_law_words m)) _ C P
    unfold a_law_words
    obtain ⟨hd', ps, hp⟩ := prts_of ht h
    have h63 := words_63 h hd
    have hle : ∀ i, (upto hd' ps i).length ≤ 63 := fun i => Nat.le_trans (upto_le hp i).1 h63
    rw [hp.tr]
    walk_at "go"
    intro q0 hq0
    walk_at "go"
    refine g_cutD1 ?_
    walk_at "go"
    refine g_kForL (fun i st C' => ∃ (q : Addr) (x2 : Option D), C q = none ∧ Keep C C' ∧ C' q = some (.lst (strsL (upto hd' ps i))) ∧ st = [some (.tup (.str hd' :: ps.map (·.1))), some (.ce q), x2]) ⟨q0, none, hq0, (Keep.refl C).put hq0, put_same, rfl⟩ (fun i x st C' hi hw => ?_) (fun st C' hw => ?_)
    · obtain ⟨q, x2, hq, hK, hCq, rfl⟩ := hw
      rw [List.getElem?_map] at hi
      cases e : ps[i]? with
      | none => rw [e] at hi; cases hi
      | some p =>
        rw [e] at hi
        cases hi
        have hpt := hp.pt p (List.mem_of_getElem? e)
        have hS := upto_succ (h := hd') e
        have hl := hle i
        show aIfS _ _ _ _ [some (.tup (.str hd' :: ps.map (·.1))), some (.ce q), some p.1] C'
        generalize p.1 = a at hpt
        generalize hb : p.2 = b at hpt
        rw [hb] at hS
        cases hpt with
        | non =>
          rw [hS]
          refine g_ifF (fun K hK => ?_) ?_
          · walk_at "go"
            exact hK
          refine g_ifT (fun K hK => ?_) ?_
          · walk_at "go"
            exact hK
          walk_at "go"
          refine g_append hCq (by rw [List.length_map]; simp only [sizeLine]; omega) ?_
          walk_at "go"
          exact ⟨q, _, hq, hK.put hq, by rw [put_same]; simp [strsL], rfl⟩
        | @num n hn =>
          rw [hS]
          refine g_ifF (fun K hK => ?_) ?_
          · walk_at "go"
            exact hK
          refine g_ifF (fun K hK => ?_) ?_
          · walk_at "go"
            exact hK
          walk_at "go"
          refine g_strAn (by omega) ?_
          walk_at "go"
          refine g_append hCq (by rw [List.length_map]; simp only [sizeLine]; omega) ?_
          walk_at "go"
          exact ⟨q, _, hq, hK.put hq, by rw [put_same]; simp [strsL], rfl⟩
        | @str z hz =>
          rw [hS]
          refine g_ifF (fun K hK => ?_) ?_
          · walk_at "go"
            exact hK
          refine g_ifF (fun K hK => ?_) ?_
          · walk_at "go"
            exact hK
          walk_at "go"
          refine g_strAs ?_
          walk_at "go"
          refine g_append hCq (by rw [List.length_map]; simp only [sizeLine]; omega) ?_
          walk_at "go"
          exact ⟨q, _, hq, hK.put hq, by rw [put_same]; simp [strsL], rfl⟩
        | @sen t hF =>
          rw [hS]
          obtain ⟨us, hus⟩ := tree_tup t
          have h63t := words_63 hF (by omega)
          refine g_ifT (fun K hK => ?_) ?_
          · walk_at "go"
            refine g_kIsi (t := "tuple") (by rw [hus]; rfl) ?_
            exact g_kTruB hK
          walk_at "go"
          refine ih t hF (by omega) m _ _ (by omega) fun C2 hK2 => ?_
          refine g_addMC' (hK2 _ _ hCq) (by rw [List.length_map, List.length_map]; simp only [sizeLine]; omega) fun q2 hq2 => ?_
          walk_at "go"
          have hK3 := hK.trans hK2
          exact ⟨q2, _, hK3.none hq2, hK3.put (hK3.none hq2), by rw [put_same]; simp [strsL], rfl⟩
    · obtain ⟨q, x2, hq, hK, hCq, rfl⟩ := hw
      rw [List.length_map, upto_all, ← hp.ws] at hCq
      walk_at "go"
      exact k _ (hK.del hq)
/-! ### rules -/
def Sv (tg : List Str) (s : Sent) : Prop := FitV tg 4 s ∧ cnt s ≤ 9
structure Rl (tg : List Str) (ss : List Sent) : Prop where
  tn : Tongue tg
  few : ss.length ≤ 8
  ok : ∀ s ∈ ss, Sv tg s
def ruleD (tg : List Str) (ss : List Sent) : D := .tup [.tup (strsL tg), .tup (sL ss)]
def headT (tg : List Str) : Str := Txt.join " " ("signs" :: tg)
def linesT (tg : List Str) (ss : List Sent) : List Str := headT tg :: ss.map sentT
def ruleT (tg : List Str) (ss : List Sent) : Str := Txt.join "\n" (linesT tg ss)
theorem join_ok' {ys : List Str} {a : Str} (ha : a.length = 1) {m : Nat} (hm : m ≤ 1000) (hy : ∀ y ∈ ys, y.length ≤ m) (hl : ys.length ≤ 1000) (h : P (.str (Txt.join a ys)) C) : aJoin (.str a) [.lst (strsL ys)] C P := by
  refine g_joinL ?_ h
  have := sum_le hy
  have : m * ys.length ≤ 1000 * 1000 := Nat.mul_le_mul hm hl
  rw [ha]
  omega
theorem kinds_le (ht : Tongue tg) : (∀ y ∈ ("signs" : Str) :: tg, y.length ≤ 6) ∧ (("signs" : Str) :: tg).length ≤ 5 := by
  refine ⟨fun y hy => ?_, by have := ht.most; rw [List.length_cons]; omega⟩
  rcases List.mem_cons.mp hy with e | e
  · rw [e]; decide +kernel
  · exact ht.six y e
theorem head_len (ht : Tongue tg) : (headT tg).length ≤ 504 := by
  have := joined_len (kinds_le ht).1 (kinds_le ht).2
  unfold headT
  omega
theorem lines_le {ss : List Sent} (hr : Rl tg ss) : (∀ y ∈ linesT tg ss, y.length ≤ 504) ∧ (linesT tg ss).length ≤ 9 := by
  refine ⟨fun y hy => ?_, by unfold linesT; have := hr.few; rw [List.length_cons, List.length_map]; omega⟩
  rcases List.mem_cons.mp hy with e | e
  · rw [e]; exact head_len hr.tn
  · obtain ⟨s, hs, rfl⟩ := List.mem_map.mp e
    exact sent_len hr.tn (hr.ok s hs).1 (by omega)
theorem signs_blank : ("signs " : Str) = "signs" ++ " " := by decide +kernel
theorem head_eq (ht : Tongue tg) : ("signs " : Str) ++ Txt.join " " tg = headT tg := by
  have hp := ht.pos
  match tg, hp with
  | y :: r, _ =>
    unfold headT
    rw [show ("signs" : Str) :: y :: r = ("signs" : Str) :: (([] : List Str) ++ (y :: r)) from rfl, join_snoc, join_sole, signs_blank]
theorem show_rule_ok {ss : List Sent} (hr : Rl tg ss) (k : P (.str (ruleT tg ss)) C) : s_show_rule [ruleD tg ss] C P := by
  unfold s_show_rule a_show_rule ruleD
  have ht := hr.tn
  have h8 := hr.few
  walk_at "go"
  refine g_joinT ?_ ?_
  · have := sum_le (m := 6) (ys := tg) fun y hy => ht.six y hy
    have := ht.most
    rw [one_blank]
    omega
  refine g_addS ?_ ?_
  · have h1 := joined_len (m := 6) (n := 4) (ys := tg) (fun y hy => ht.six y hy) ht.most
    rw [show ("signs " : Str).length = 6 by decide +kernel]
    simp only [sizeLine]
    omega
  rw [head_eq ht]
  walk_at "go"
  refine g_kLc (fun i acc C9 => acc = strsL ((ss.take i).map sentT) ∧ C9 = C) (by unfold sL; rw [List.length_map]; simp only [sizeLine]; omega) ⟨rfl, rfl⟩ (fun i d acc C9 hi hw => ?_) (fun acc C9 hw => ?_)
  · obtain ⟨rfl, rfl⟩ := hw
    unfold sL at hi
    rw [List.getElem?_map] at hi
    cases e : ss[i]? with
    | none => rw [e] at hi; cases hi
    | some s =>
      rw [e] at hi
      cases hi
      have hs := hr.ok s (List.mem_of_getElem? e)
      walk_at "go"
      refine show_ok ht 4 s hs.1 (by omega) 8 _ _ (by omega) ?_
      exact ⟨by rw [List.take_add_one, e]; simp [strsL], rfl⟩
  · obtain ⟨rfl, rfl⟩ := hw
    rw [show (sL ss).length = ss.length from List.length_map .., List.take_length]
    refine g_addL (by rw [List.length_map, List.length_map]; simp only [List.length_cons, List.length_nil, sizeLine]; omega) ?_
    walk_at "go"
    have := lines_le hr
    exact join_ok' (ys := linesT tg ss) one_feed (m := 504) (by omega) this.1 (by omega) k
theorem law_text_ok {ss : List Sent} (hr : Rl tg ss) (k : ∀ C', P (.str (ruleT tg ss)) C') : s_law_text [ruleD tg ss] C P := by
  unfold s_law_text a_law_text ruleD
  have ht := hr.tn
  have h8 := hr.few
  have hm := ht.most
  walk_at "go"
  refine g_addL (by rw [List.length_map]; simp only [List.length_cons, List.length_nil, sizeLine]; omega) ?_
  walk_at "go"
  refine join_ok' (ys := "signs" :: tg) one_blank (m := 6) (by omega) (kinds_le ht).1 (by have := (kinds_le ht).2; omega) ?_
  walk_at "go"
  intro q hq
  walk_at "go"
  refine g_kForL (fun i st C' => ∃ x2 : Option D, C' q = some (.lst (strsL (headT tg :: (ss.take i).map sentT))) ∧ st = [some (.tup [.tup (strsL tg), .tup (sL ss)]), some (.ce q), x2]) ⟨none, by rw [put_same]; rfl, rfl⟩ (fun i d st C' hi hw => ?_) (fun st C' hw => ?_)
  · obtain ⟨x2, hCq, rfl⟩ := hw
    unfold sL at hi
    rw [List.getElem?_map] at hi
    cases e : ss[i]? with
    | none => rw [e] at hi; cases hi
    | some s =>
      rw [e] at hi
      cases hi
      have hs := hr.ok s (List.mem_of_getElem? e)
      walk_at "go"
      refine law_words_ok ht 4 s hs.1 (by omega) 8 _ _ (by omega) fun C2 hK => ?_
      walk_at "go"
      refine join_ok' one_blank (m := 7) (by omega) (fun y hy => (words_ok ht hs.1 y hy).1) (by have := words_63 hs.1 (by omega); omega) ?_
      walk_at "go"
      refine g_append (hK _ _ hCq) (by rw [List.length_map, List.length_cons, List.length_map, List.length_take]; simp only [sizeLine]; omega) ?_
      walk_at "go"
      exact ⟨_, by rw [put_same, List.take_add_one, e]; simp [strsL, sentT], rfl⟩
  · obtain ⟨x2, hCq, rfl⟩ := hw
    rw [show (sL ss).length = ss.length from List.length_map .., List.take_length] at hCq
    walk_at "go"
    have := lines_le hr
    exact join_ok' (ys := linesT tg ss) one_feed (m := 504) (by omega) this.1 (by omega) (k _)
/-! ### rules drawn -/
theorem rule_drawn {p : Addr} {most : Nat} (hm : most ≤ 8) (hp : Pen C p) (k : ∀ tg ss C', Rl tg ss → P (ruleD tg ss) C') : s_law_rule [.ce p, .int most] C P := by
  unfold s_law_rule a_law_rule
  walk_at "go"
  refine any_tongue_ok hp fun tg C1 ht hP1 _ => ?_
  walk_at "go"
  rw [show (most : Int) + 1 = ((most + 1 : Nat) : Int) by omega]
  refine take_nat hP1 (by omega) (by omega) fun c n hc hn => ?_
  have hP2 := pen_put (C := C1) (p := p) hc
  generalize put C1 p c = C2 at hP2 ⊢
  walk_at "go"
  have hrl : (rangeD 0 (n : Int).toNat).length = n := by rw [rangeD_len]; rfl
  refine g_kLc (fun i acc C9 => ∃ ss : List Sent, ss.length = i ∧ acc = sL ss ∧ (∀ s ∈ ss, Sv tg s) ∧ Pen C9 p) (by rw [hrl]; simp only [sizeLine]; omega) ⟨[], rfl, rfl, by simp, hP2⟩ (fun i d acc C9 hi hw => ?_) (fun acc C9 hw => ?_)
  · obtain ⟨ss, hsl, rfl, hss, hP9⟩ := hw
    walk_at "go"
    intro r hr
    have hpr : p ≠ r := by obtain ⟨_, h, _⟩ := hP9; exact ne_cell h hr
    walk_at "go"
    refine (sentence_drawn ht 3 8 _ _ p r 8 (by omega) (by omega) (by omega) hpr (hP9.other hpr) put_same fun s C' z' hs hc' hP' _ _ => ?_ : s_law_sentence 8 [.ce p, .tup (strsL tg), .int ((4 - 3 : Nat) : Int), .ce r] _ _)
    refine ⟨ss ++ [s], by simp [hsl], by simp [sL], fun x hx => ?_, hP'⟩
    rcases List.mem_append.mp hx with h | h
    · exact hss x h
    · rw [List.mem_singleton.mp h]; exact ⟨hs, by omega⟩
  · obtain ⟨ss, hsl, rfl, hss, hP9⟩ := hw
    rw [hrl] at hsl
    walk_at "go"
    exact k tg ss _ ⟨ht, by omega, hss⟩
end
end A_k56

namespace A_k56
open PySem L2 AL
open A_k56.H (Sent tree)
section
variable {C : AH} {P : D → AH → Prop} {tg : List Str}
theorem blsD_true : ∀ n : Nat, blsD (List.replicate n (D.bl true)) = some (List.replicate n true)
  | 0 => rfl
  | n + 1 => by
    rw [List.replicate_succ, List.replicate_succ, blsD, blsD_true n]
    rfl
theorem all_true (n : Nat) : (List.replicate n true).all id = true := by induction n with | zero => rfl | succ n ih => rw [List.replicate_succ, List.all_cons, ih]; rfl
theorem nought : ("0" : Str) = ⟨#[48]⟩ := by decide +kernel
theorem read_number_ok {n : Nat} (hn : n ≤ 30) (k : P (.int n) C) : s_read_number [.str (numS n)] C P := by
  have hB := num_ok hn
  unfold numB at hB
  simp only [Bool.and_eq_true, decide_eq_true_eq, Bool.or_eq_true] at hB
  obtain ⟨⟨⟨⟨⟨⟨hl, hd⟩, h0⟩, hi⟩, hb⟩, hne⟩, _⟩ := hB
  have hs := num_short hn
  generalize numS n = w at hl hd h0 hi hs hne ⊢
  unfold s_read_number a_read_number
  walk_at "go"
  refine g_ifF (fun K hK => ?_) ?_
  · walk_at "go"
    refine g_lenS (by simp only [sizeLine]; omega) ?_
    walk_at "go"
    refine g_in (u := .int w.length) (us := [.int 1, .int 2]) rfl rfl ?_
    have e : inV (.int (w.length : Int)) [.int 1, .int 2] = true := by
      rcases hl with e | e <;> rw [e] <;> rfl
    rw [e]
    walk_at "go"
    have hsl : (AL.signs w).length = w.length := by unfold AL.signs; rw [List.length_map, AL.len_toList]
    refine g_kLc (fun i acc C9 => acc = List.replicate i (D.bl true) ∧ C9 = C) (by rw [hsl]; simp only [sizeLine]; omega) ⟨rfl, rfl⟩ (fun i d acc C9 hi hw' => ?_) (fun acc C9 hw' => ?_)
    · obtain ⟨rfl, rfl⟩ := hw'
      unfold AL.signs at hi
      rw [List.getElem?_map] at hi
      cases e : w.cps.toList[i]? with
      | none => rw [e] at hi; cases hi
      | some c =>
        rw [e] at hi
        cases hi
        walk_at "go"
        refine g_inS ?_
        have := List.all_eq_true.mp hd c (List.mem_of_getElem? e)
        rw [in_one, this]
        exact ⟨by rw [List.replicate_succ'], rfl⟩
    · obtain ⟨rfl, rfl⟩ := hw'
      walk_at "go"
      refine g_all (blsD_true _) ?_
      rw [all_true]
      walk_at "go"
      exact hK
  walk_at "go"
  refine g_ifF (fun K hK => ?_) ?_
  · walk_at "go"
    refine g_lenS (by simp only [sizeLine]; omega) ?_
    walk_at "go"
    refine g_iteD (fun h2 => ?_) (fun _ => hK)
    walk_at "go"
    have hne' : 0 < w.cps.toList.length := hne
    have hc : w.cps.toList[0]? = some w.cps.toList[0] := List.getElem?_eq_getElem hne'
    show w.length ≤ sizeLine ∧ (match atI w.cps.toList 0 with | some c => _ | none => False)
    refine ⟨by simp only [sizeLine]; omega, ?_⟩
    rw [show atI w.cps.toList 0 = some w.cps.toList[0] from atI_nat' (i := 0) hc]
    have h48 : w.cps.toList[0] ≠ 48 := by
      rcases h0 with h | h
      · omega
      · intro e
        rw [hc, e] at h
        simp at h
    walk_at "go"
    rw [nought, decide_eq_false (show ¬ ((⟨#[w.cps.toList[0]]⟩ : Str) = ⟨#[48]⟩) from fun e => h48 (by injection e with e; injection e with e; injection e with e))]
    exact hK
  walk_at "go"
  exact g_intS hi (by omega) k
theorem word_ok {W : List Str} {a : Nat} {y : Str} (e : W[a]? = some y) (k : P (.str y) C) : s_word_there [.lst (strsL W), .int (a : Int)] C P := by
  unfold s_word_there a_word_there
  have ha := (List.getElem?_eq_some_iff.mp e).1
  walk_at "go"
  refine g_ifF (fun K hK => ?_) ?_
  · walk_at "go"
    rw [List.length_map, decide_eq_false (by omega)]
    exact hK
  walk_at "go"
  exact g_ixL (d := .str y) (atI_nat' (by unfold strsL; rw [List.getElem?_map, e]; rfl)) k
theorem getW {A L R : List Str} {j : Nat} (hj : j < L.length) : (A ++ (L ++ R))[A.length + j]? = L[j]? := by
  rw [List.getElem?_append_right (by omega), Nat.add_sub_cancel_left, List.getElem?_append_left hj]
theorem word1 {W : List Str} {a : Nat} {y : Str} (j : Nat) (e : W[a + j]? = some y) (k : P (.str y) C) : s_word_there [.lst (strsL W), .int ((a : Int) + (j : Int))] C P := by
  rw [show (a : Int) + (j : Int) = ((a + j : Nat) : Int) by omega]
  exact word_ok e k
theorem no_dash {n : Nat} (hn : n ≤ 30) : decide (numS n = "-") = false := by
  have hB := num_ok hn
  unfold numB at hB
  simp only [Bool.and_eq_true] at hB
  simpa using hB.2
theorem plain_read {s : Sent} (ht : Tongue tg) (hs : leafV tg s) {A R : List Str} (k : P (.tup [tree s, .int ((A.length : Int) + ((wordsT s).length : Int))]) C) : s_read_plain [.lst (strsL (A ++ (wordsT s ++ R))), .int (A.length : Int)] C P := by
  have hm := ht.most
  have g0 : ∀ {y L}, wordsT s = y :: L → (A ++ (wordsT s ++ R))[A.length]? = some y := fun {y L} e => by
    have := getW (A := A) (L := wordsT s) (R := R) (j := 0) (by rw [e]; simp)
    rw [Nat.add_zero, e] at this
    rw [e, this]
    rfl
  have g1 : ∀ {x y L}, wordsT s = x :: y :: L → (A ++ (wordsT s ++ R))[A.length + 1]? = some y := fun {x y L} e => by
    have := getW (A := A) (L := wordsT s) (R := R) (j := 1) (by rw [e]; simp)
    rw [e] at this
    rw [e, this]
    rfl
  have g2 : ∀ {x y z L}, wordsT s = x :: y :: z :: L → (A ++ (wordsT s ++ R))[A.length + 2]? = some z := fun {x y z L} e => by
    have := getW (A := A) (L := wordsT s) (R := R) (j := 2) (by rw [e]; simp)
    rw [e] at this
    rw [e, this]
    rfl
  have notApart : ∀ {w : Str} {T : AS'} {E : AEnds} {st : ASt}, decide (w = "apart") = false → True := fun _ => trivial
  unfold s_read_plain a_read_plain
  walk_at "go"
  cases s with
  | apart =>
    refine word_ok (g0 rfl) ?_
    walk_at "go"
    refine g_ifT (fun K hK => ?_) ?_
    · walk_at "go"
      exact hK
    walk_at "go"
    exact k
  | without own =>
    refine word_ok (g0 rfl) ?_
    walk_at "go"
    refine g_ifF (fun K hK => ?_) ?_
    · walk_at "go"
      rw [show decide (("without" : Str) = "apart") = false by decide +kernel]
      exact hK
    walk_at "go"
    refine word1 1 (g1 rfl) ?_
    walk_at "go"
    refine g_ifT (fun K hK => ?_) ?_
    · walk_at "go"
      refine g_in (u := .str "without") (us := [.str "without", .str "begins", .str "ends"]) rfl rfl ?_
      rw [show inV (.str "without") [.str "without", .str "begins", .str "ends"] = true by decide +kernel]
      walk_at "go"
      exact hK
    walk_at "go"
    exact k
  | begins own =>
    refine word_ok (g0 rfl) ?_
    walk_at "go"
    refine g_ifF (fun K hK => ?_) ?_
    · walk_at "go"
      rw [show decide (("begins" : Str) = "apart") = false by decide +kernel]
      exact hK
    walk_at "go"
    refine word1 1 (g1 rfl) ?_
    walk_at "go"
    refine g_ifT (fun K hK => ?_) ?_
    · walk_at "go"
      refine g_in (u := .str "begins") (us := [.str "without", .str "begins", .str "ends"]) rfl rfl ?_
      rw [show inV (.str "begins") [.str "without", .str "begins", .str "ends"] = true by decide +kernel]
      walk_at "go"
      exact hK
    walk_at "go"
    exact k
  | ends own =>
    refine word_ok (g0 rfl) ?_
    walk_at "go"
    refine g_ifF (fun K hK => ?_) ?_
    · walk_at "go"
      rw [show decide (("ends" : Str) = "apart") = false by decide +kernel]
      exact hK
    walk_at "go"
    refine word1 1 (g1 rfl) ?_
    walk_at "go"
    refine g_ifT (fun K hK => ?_) ?_
    · walk_at "go"
      refine g_in (u := .str "ends") (us := [.str "without", .str "begins", .str "ends"]) rfl rfl ?_
      rw [show inV (.str "ends") [.str "without", .str "begins", .str "ends"] = true by decide +kernel]
      walk_at "go"
      exact hK
    walk_at "go"
    exact k
  | long lo hi =>
    have hlo : lo ≤ 30 := by
      cases hi with
      | none => exact hs
      | some x => have h : lo ≤ x ∧ x ≤ 30 := hs; omega
    refine word_ok (g0 rfl) ?_
    walk_at "go"
    refine g_ifF (fun K hK => ?_) ?_
    · walk_at "go"
      rw [show decide (("long" : Str) = "apart") = false by decide +kernel]
      exact hK
    walk_at "go"
    refine word1 1 (g1 rfl) ?_
    walk_at "go"
    refine g_ifF (fun K hK => ?_) ?_
    · walk_at "go"
      refine g_in (u := .str "long") (us := [.str "without", .str "begins", .str "ends"]) rfl rfl ?_
      rw [show inV (.str "long") [.str "without", .str "begins", .str "ends"] = false by decide +kernel]
      walk_at "go"
      exact hK
    walk_at "go"
    refine word1 2 (g2 rfl) ?_
    walk_at "go"
    cases hi with
    | none =>
      refine g_ifT (fun K hK => ?_) ?_
      · walk_at "go"
        rw [show decide (("long" : Str) = "long") = true by decide +kernel]
        walk_at "go"
        exact hK
      walk_at "go"
      refine read_number_ok hlo ?_
      walk_at "go"
      exact k
    | some x =>
      have h : lo ≤ x ∧ x ≤ 30 := hs
      refine g_ifF (fun K hK => ?_) ?_
      · walk_at "go"
        rw [show decide (("long" : Str) = "long") = true by decide +kernel]
        walk_at "go"
        rw [show decide (hiS (some x) = "-") = false from no_dash h.2]
        exact hK
      walk_at "go"
      refine g_ifT (fun K hK => ?_) ?_
      · walk_at "go"
        refine g_in (u := .str "long") (us := [.str "long", .str "least"]) rfl rfl ?_
        rw [show inV (.str "long") [.str "long", .str "least"] = true by decide +kernel]
        walk_at "go"
        exact hK
      walk_at "go"
      refine read_number_ok hlo ?_
      walk_at "go"
      refine read_number_ok h.2 ?_
      walk_at "go"
      exact k
  | least a b =>
    have h : a < tg.length ∧ b ≤ 9 := hs
    refine word_ok (g0 rfl) ?_
    walk_at "go"
    refine g_ifF (fun K hK => ?_) ?_
    · walk_at "go"
      rw [show decide (("least" : Str) = "apart") = false by decide +kernel]
      exact hK
    walk_at "go"
    refine word1 1 (g1 rfl) ?_
    walk_at "go"
    refine g_ifF (fun K hK => ?_) ?_
    · walk_at "go"
      refine g_in (u := .str "least") (us := [.str "without", .str "begins", .str "ends"]) rfl rfl ?_
      rw [show inV (.str "least") [.str "without", .str "begins", .str "ends"] = false by decide +kernel]
      walk_at "go"
      exact hK
    walk_at "go"
    refine word1 2 (g2 rfl) ?_
    walk_at "go"
    refine g_ifF (fun K hK => ?_) ?_
    · walk_at "go"
      rw [show decide (("least" : Str) = "long") = false by decide +kernel]
      walk_at "go"
      exact hK
    walk_at "go"
    refine g_ifT (fun K hK => ?_) ?_
    · walk_at "go"
      refine g_in (u := .str "least") (us := [.str "long", .str "least"]) rfl rfl ?_
      rw [show inV (.str "least") [.str "long", .str "least"] = true by decide +kernel]
      walk_at "go"
      exact hK
    walk_at "go"
    refine read_number_ok (by omega) ?_
    walk_at "go"
    refine read_number_ok (by omega) ?_
    walk_at "go"
    exact k
  | often own b =>
    obtain ⟨h1, h2, h3⟩ := hs
    refine word_ok (g0 rfl) ?_
    walk_at "go"
    refine g_ifF (fun K hK => ?_) ?_
    · walk_at "go"
      rw [show decide (("often" : Str) = "apart") = false by decide +kernel]
      exact hK
    walk_at "go"
    refine word1 1 (g1 rfl) ?_
    walk_at "go"
    refine g_ifF (fun K hK => ?_) ?_
    · walk_at "go"
      refine g_in (u := .str "often") (us := [.str "without", .str "begins", .str "ends"]) rfl rfl ?_
      rw [show inV (.str "often") [.str "without", .str "begins", .str "ends"] = false by decide +kernel]
      walk_at "go"
      exact hK
    walk_at "go"
    refine word1 2 (g2 rfl) ?_
    walk_at "go"
    refine g_ifF (fun K hK => ?_) ?_
    · walk_at "go"
      rw [show decide (("often" : Str) = "long") = false by decide +kernel]
      walk_at "go"
      exact hK
    walk_at "go"
    refine g_ifF (fun K hK => ?_) ?_
    · walk_at "go"
      refine g_in (u := .str "often") (us := [.str "long", .str "least"]) rfl rfl ?_
      rw [show inV (.str "often") [.str "long", .str "least"] = false by decide +kernel]
      walk_at "go"
      exact hK
    walk_at "go"
    refine g_ifT (fun K hK => ?_) ?_
    · walk_at "go"
      exact hK
    walk_at "go"
    refine read_number_ok (by omega) ?_
    walk_at "go"
    exact k
  | _ => exact hs.elim
end
end A_k56

namespace A_k56
open PySem L2 AL
open A_k56.H (Sent tree)
section
variable {C : AH} {P : D → AH → Prop} {tg : List Str}
theorem leaf_head {s : Sent} (hs : leafV tg s) : ∃ w L, wordsT s = w :: L ∧ (tabAt tab_PARTS w).isSome = false := by
  cases s with
  | no => exact hs.elim
  | both => exact hs.elim
  | either => exact hs.elim
  | _ => exact ⟨_, _, rfl, by decide +kernel⟩
/-- a sentence with parts: its word, its parts -/
structure Ks (tg : List Str) (d : Nat) (s : Sent) (w : Str) (ts : List Sent) : Prop where
  tr : tree s = .tup (.str w :: ts.map tree)
  ws : wordsT s = w :: (ts.map wordsT).flatten
  tab : tabAt tab_PARTS w = some (ts.length : Int)
  fit : ∀ t ∈ ts, FitV tg d t
  few : ts.length ≤ 2
  pos : 1 ≤ ts.length
theorem leaf_or {d : Nat} {s : Sent} (h : FitV tg (d + 1) s) : leafV tg s ∨ ∃ w ts, Ks tg d s w ts := by
  cases s with
  | no s => exact .inr ⟨"not", [s], rfl, by simp [wordsT], (show tabAt tab_PARTS "not" = some 1 by decide +kernel), fun t ht => by rw [List.mem_singleton.mp ht]; exact h, by simp, by simp⟩
  | both s t => exact .inr ⟨"both", [s, t], rfl, by simp [wordsT], (show tabAt tab_PARTS "both" = some 2 by decide +kernel), fun u hu => by
      simp only [List.mem_cons, List.not_mem_nil, or_false] at hu
      rcases hu with rfl | rfl
      · exact h.1
      · exact h.2, by simp, by simp⟩
  | either s t => exact .inr ⟨"either", [s, t], rfl, by simp [wordsT], (show tabAt tab_PARTS "either" = some 2 by decide +kernel), fun u hu => by
      simp only [List.mem_cons, List.not_mem_nil, or_false] at hu
      rcases hu with rfl | rfl
      · exact h.1
      · exact h.2, by simp, by simp⟩
  | _ => exact .inl h
theorem part_read (ht : Tongue tg) : ∀ (d : Nat) (s : Sent), FitV tg d s → d ≤ 4 → ∀ (m : Nat) (A R : List Str) (C : AH) (P : D → AH → Prop), d ≤ m → (∀ C', Keep C C' → P (.tup [tree s, .int ((A.length : Int) + ((wordsT s).length : Int))]) C') →
    s_read_part m [.lst (strsL (A ++ (wordsT s ++ R))), .int (A.length : Int), .int ((5 - d : Nat) : Int)] C P := by
  intro d
  induction d with
  | zero => intro s h; exact h.elim
  | succ d ih =>
    intro s h hd m A R C P hm k
    obtain ⟨m, rfl⟩ : ∃ m', m = m' + 1 := ⟨m - 1, by omega⟩
    show aBody _ (a_read_part (s_read_part m)) _ C P
    unfold a_read_part
    walk_at "go"
    rcases leaf_or h with hl | ⟨w, ts, hk⟩
    · obtain ⟨w, L, hw, htab⟩ := leaf_head hl
      refine word_ok (y := w) (by
        have := getW (A := A) (L := wordsT s) (R := R) (j := 0) (by rw [hw]; simp)
        rw [Nat.add_zero, hw] at this
        rw [hw, this]
        rfl) ?_
      walk_at "go"
      refine g_ifT (fun K hK => ?_) ?_
      · walk_at "go"
        rw [htab]
        exact hK
      walk_at "go"
      exact plain_read ht hl (k C (Keep.refl C))
    · refine word_ok (y := w) (by
        have := getW (A := A) (L := wordsT s) (R := R) (j := 0) (by rw [hk.ws]; simp)
        rw [Nat.add_zero, hk.ws] at this
        rw [hk.ws, this]
        rfl) ?_
      have hd1 : 1 ≤ d := by
        rcases Nat.eq_zero_or_pos d with e | e
        · subst e
          have : ∃ t, t ∈ ts := by
            have := hk.pos
            cases ts with
            | nil => simp at this
            | cons t ts => exact ⟨t, List.mem_cons_self⟩
          obtain ⟨t, htm⟩ := this
          exact (hk.fit t htm).elim
        · exact e
      walk_at "go"
      refine g_ifF (fun K hK => ?_) ?_
      · walk_at "go"
        rw [hk.tab]
        exact hK
      walk_at "go"
      refine g_ifF (fun K hK => ?_) ?_
      · walk_at "go"
        rw [decide_eq_false (by omega)]
        exact hK
      walk_at "go"
      intro g hg
      walk_at "go"
      refine g_kIxTab hk.tab ?_
      walk_at "go"
      have h2 := hk.few
      refine g_kIR1 (by omega) (by omega) ?_
      refine g_kForR0 (fun i st C' => ∃ (x5 x6 : Option D), i ≤ ts.length ∧ C g = none ∧ Keep C C' ∧ C' g = some (.lst ((ts.take i).map tree)) ∧ st = [some (.lst (strsL (A ++ (wordsT s ++ R)))), some (.int (((A ++ (w :: ((ts.take i).map wordsT).flatten)).length : Nat) : Int)), some (.int ((5 - (d + 1) : Nat) : Int)), some (.str w), some (.ce g), x5, x6]) ?_ (fun i st C' hi hw => ?_) (fun st C' hw => ?_)
      · refine ⟨none, none, by omega, hg, (Keep.refl C).put hg, put_same, ?_⟩
        rw [show (((A ++ (w :: ((ts.take 0).map wordsT).flatten)).length : Nat) : Int) = (A.length : Int) + 1 by simp]
      · obtain ⟨x5, x6, hil, hg, hK, hCg, rfl⟩ := hw
        have hi2 : i < ts.length := by
          have : ((ts.length : Nat) : Int).toNat = ts.length := by omega
          omega
        have e : ts[i]? = some ts[i] := List.getElem?_eq_getElem hi2
        generalize ts[i] = t at e
        have hW : A ++ (wordsT s ++ R) = (A ++ (w :: ((ts.take i).map wordsT).flatten)) ++ (wordsT t ++ (((ts.drop (i + 1)).map wordsT).flatten ++ R)) := by
          rw [hk.ws]
          have hsp : ts = ts.take i ++ (t :: ts.drop (i + 1)) := by
            have h2 := (List.getElem?_eq_some_iff.mp e).2
            rw [← h2, List.getElem_cons_drop, List.take_append_drop]
          conv => lhs; rw [hsp]
          simp
        walk_at "go"
        rw [hW, show ((5 - (d + 1) : Nat) : Int) + 1 = ((5 - d : Nat) : Int) by omega]
        refine ih t (hk.fit t (List.mem_of_getElem? e)) (by omega) m _ _ _ _ (by omega) fun C2 hK2 => ?_
        have hCg2 := hK2 _ _ hCg
        walk_at "go"
        refine g_append hCg2 (by rw [List.length_map, List.length_take]; simp only [sizeLine]; omega) ?_
        walk_at "go"
        have hlen : ((((A ++ (w :: ((ts.take i).map wordsT).flatten)).length : Nat) : Int) + ((wordsT t).length : Int)) = (((A ++ (w :: ((ts.take (i + 1)).map wordsT).flatten)).length : Nat) : Int) := by
          rw [List.take_add_one, e]
          simp only [Option.toList_some, List.map_append, List.map_cons, List.map_nil, List.flatten_append, List.flatten_cons, List.flatten_nil, List.append_nil, List.length_append, List.length_cons]
          omega
        rw [hlen, ← hW]
        refine ⟨some (.int i), some (tree t), hi2, hg, (hK.trans hK2).put hg, ?_, rfl⟩
        rw [put_same, List.take_add_one, e]
        simp
      · obtain ⟨x5, x6, hil, hg, hK, hCg, rfl⟩ := hw
        have : ((ts.length : Nat) : Int).toNat = ts.length := by omega
        rw [this, List.take_length] at hCg
        rw [this, List.take_length]
        walk_at "go"
        refine g_addT (by rw [List.length_map]; simp only [List.length_cons, List.length_nil, sizeLine]; omega) ?_
        walk_at "go"
        have hfin := k _ (hK.del hg)
        rw [hk.tr, hk.ws] at hfin
        rw [List.length_append]
        rw [show ((A.length + (w :: (ts.map wordsT).flatten).length : Nat) : Int) = (A.length : Int) + ((w :: (ts.map wordsT).flatten).length : Int) by omega]
        exact hfin
theorem sent_true (ht : Tongue tg) {s : Sent} (h : Sv tg s) (k : P (.bl true) C) : s_is_sentence [.tup (strsL tg), tree s] C P := by
  have hv := (fit_lv ht (d := 3) h.1).th (by omega)
  refine sentence_ok ht (n := 60) ⟨hv.1, hv.2⟩ ?_
  rw [sz_cnt h.1, decide_eq_true h.2]
  exact k
theorem is_rule_ok {ss : List Sent} (hr : Rl tg ss) (k : P (.bl true) C) : s_is_rule [ruleD tg ss] C P := by
  unfold s_is_rule a_is_rule ruleD
  have ht := hr.tn
  have h8 := hr.few
  walk_at "go"
  refine g_ifF (fun K hK => ?_) ?_
  · walk_at "go"
    rw [show isT "tuple" "tuple" = true from rfl, show (!true) = false from rfl]
    walk_at "go"
    rw [show (!decide ((([D.tup (strsL tg), D.tup (sL ss)].length : Nat) : Int) = 2)) = false by simp]
    walk_at "go"
    refine is_tongue_true ht ?_
    walk_at "go"
    exact hK
  walk_at "go"
  refine g_ifF (fun K hK => ?_) ?_
  · walk_at "go"
    rw [show isT "tuple" "tuple" = true from rfl, show (!true) = false from rfl]
    walk_at "go"
    rw [show (sL ss).length = ss.length from List.length_map .., show decide ((ss.length : Int) > 8) = false from decide_eq_false (by omega)]
    exact hK
  walk_at "go"
  refine g_kLcMap (fun _ => .bl true) (by unfold sL; rw [List.length_map]; simp only [sizeLine]; omega) (fun d hd R hR => ?_) ?_
  · obtain ⟨s, hs', rfl⟩ := List.mem_map.mp hd
    walk_at "go"
    exact sent_true ht (hr.ok s hs') hR
  walk_at "go"
  refine g_all (blsD_mapS (fun _ => true) _) ?_
  rw [List.all_map, show (sL ss).all (id ∘ fun _ => true) = true from List.all_eq_true.mpr fun _ _ => rfl]
  exact k
theorem free_of {c : Nat} (hc : c < 33) {y : Str} (h : ∀ d ∈ y.cps.toList, 33 ≤ d) : freeOf c y := fun hm => by have := h c hm; omega
theorem split_words (ht : Tongue tg) {d : Nat} {s : Sent} (h : FitV tg d s) : Txt.split (sentT s) " " = wordsT s := by
  unfold sentT
  rw [blank, TL.join_eq]
  refine split_join ?_ fun y hy => free_of (by omega) (words_ok ht h y hy).2.1
  obtain ⟨x, A, e⟩ := words_ne s
  rw [e]; simp
theorem read_sentence_ok (ht : Tongue tg) {s : Sent} (h : Sv tg s) (k : ∀ C', P (tree s) C') : s_read_sentence [.tup (strsL tg), .str (sentT s)] C P := by
  unfold s_read_sentence a_read_sentence
  walk_at "go"
  refine g_split (by decide +kernel) (by have := sent_len ht h.1 (by omega); omega) ?_
  rw [split_words ht h.1]
  walk_at "go"
  have := part_read ht 4 s h.1 (by omega) 8 [] []
  rw [List.nil_append, List.append_nil] at this
  refine (this _ _ (by omega) fun C2 hK => ?_ : s_read_part 8 [.lst (strsL (wordsT s)), .int (([] : List Str).length : Int), .int ((5 - 4 : Nat) : Int)] _ _)
  walk_at "go"
  refine g_ifF (fun K hK => ?_) ?_
  · walk_at "go"
    rw [List.length_map, show (!decide (((([] : List Str).length : Nat) : Int) + ((wordsT s).length : Int) = ((wordsT s).length : Int))) = false by simp]
    walk_at "go"
    refine sent_true ht h ?_
    walk_at "go"
    exact hK
  walk_at "go"
  exact k _
theorem joinOne_mem {c d : Nat} {ys : List Str} (h : d ∈ (Txt.join ⟨#[c]⟩ ys).cps.toList) : d = c ∨ ∃ y ∈ ys, d ∈ y.cps.toList := by
  rw [TL.join_eq, joinOne] at h
  cases ys with
  | nil => simp at h
  | cons y r =>
    rcases List.mem_append.mp h with h | h
    · exact .inr ⟨y, List.mem_cons_self, h⟩
    · obtain ⟨l, hl, hd⟩ := List.mem_flatten.mp h
      obtain ⟨z, hz, rfl⟩ := List.mem_map.mp hl
      rcases List.mem_cons.mp hd with e | e
      · exact .inl e
      · exact .inr ⟨z, List.mem_cons_of_mem _ hz, e⟩
theorem kind_free (ht : Tongue tg) : ∀ y ∈ ("signs" : Str) :: tg, ∀ c ∈ y.cps.toList, 33 ≤ c := by
  intro y hy c hc
  rcases List.mem_cons.mp hy with e | e
  · subst e
    revert c
    have : (("signs" : Str).cps.toList.all fun c => decide (33 ≤ c)) = true := by decide +kernel
    intro c hc
    exact of_decide_eq_true (List.all_eq_true.mp this c hc)
  · refine (zs_good ht c ?_).1
    unfold Zs
    rw [join_toList]
    exact List.mem_flatten.mpr ⟨_, List.mem_map.mpr ⟨y, e, rfl⟩, hc⟩
theorem split_head (ht : Tongue tg) : Txt.split (headT tg) " " = ("signs" : Str) :: tg := by
  unfold headT
  rw [blank, TL.join_eq]
  exact split_join (by simp) fun y hy => free_of (by omega) (kind_free ht y hy)
theorem split_rule {ss : List Sent} (hr : Rl tg ss) : Txt.split (ruleT tg ss) "\n" = linesT tg ss := by
  unfold ruleT
  rw [feed, TL.join_eq]
  refine split_join (by simp [linesT]) fun y hy hm => ?_
  rcases List.mem_cons.mp hy with e | e
  · subst e
    unfold headT at hm
    rw [blank] at hm
    rcases joinOne_mem hm with q | ⟨z, hz, q⟩
    · omega
    · have := kind_free hr.tn z hz 10 q; omega
  · obtain ⟨s, hs, rfl⟩ := List.mem_map.mp e
    unfold sentT at hm
    rw [blank] at hm
    rcases joinOne_mem hm with q | ⟨z, hz, q⟩
    · omega
    · have := (words_ok hr.tn (hr.ok s hs).1 z hz).2.1 10 q; omega
theorem rule_len {ss : List Sent} (hr : Rl tg ss) : (ruleT tg ss).length ≤ 10000 := by
  unfold ruleT
  rw [feed]
  have := join_one_len 10 (linesT tg ss)
  have hl := lines_le hr
  have := sum_le hl.1
  have : 504 * (linesT tg ss).length ≤ 504 * 9 := Nat.mul_le_mul_left _ hl.2
  omega
theorem read_rule_ok {ss : List Sent} (hr : Rl tg ss) (k : ∀ C', P (ruleD tg ss) C') : s_read_rule [.str (ruleT tg ss)] C P := by
  unfold s_read_rule a_read_rule
  have ht := hr.tn
  have h8 := hr.few
  walk_at "go"
  refine g_ifF (fun K hK => ?_) ?_
  · walk_at "go"
    rw [show isT "str" "str" = true from rfl]
    exact hK
  walk_at "go"
  refine g_split (by decide +kernel) (by have := rule_len hr; omega) ?_
  rw [split_rule hr]
  walk_at "go"
  rw [show (linesT tg ss).map D.str = D.str (headT tg) :: strsL (ss.map sentT) from rfl]
  walk_at "go"
  refine g_split (by decide +kernel) (by have := head_len ht; omega) ?_
  rw [split_head ht]
  walk_at "go"
  rw [show (("signs" : Str) :: tg).map D.str = D.str "signs" :: strsL tg from rfl]
  refine g_cutDrop (j := 1) ?_
  rw [List.drop_succ_cons, List.drop_zero]
  walk_at "go"
  refine g_ifF (fun K hK => ?_) ?_
  · walk_at "go"
    rw [decide_eq_true rfl]
    walk_at "go"
    refine is_tongue_true ht ?_
    walk_at "go"
    rw [List.length_cons, List.length_map, List.length_map, decide_eq_false (by omega)]
    exact hK
  walk_at "go"
  refine g_cutDrop (j := 1) ?_
  rw [List.drop_succ_cons, List.drop_zero]
  walk_at "go"
  refine g_kLc (fun i acc C9 => acc = sL (ss.take i)) (by rw [List.length_map, List.length_map]; simp only [sizeLine]; omega) rfl (fun i d acc C9 hi hw => ?_) (fun acc C9 hw => ?_)
  · subst hw
    rw [List.getElem?_map, List.getElem?_map] at hi
    cases e : ss[i]? with
    | none => rw [e] at hi; cases hi
    | some s =>
      rw [e] at hi
      cases hi
      walk_at "go"
      refine read_sentence_ok ht (hr.ok s (List.mem_of_getElem? e)) fun C' => ?_
      show _ = _
      rw [List.take_add_one, e]
      simp [sL]
  · subst hw
    rw [List.length_map, List.length_map, List.take_length]
    walk_at "go"
    refine g_ifF (fun K hK => ?_) ?_
    · walk_at "go"
      refine is_rule_ok hr ?_
      walk_at "go"
      exact hK
    walk_at "go"
    exact k _
end
end A_k56

namespace A_k56
open PySem L2 AL
open A_k56.H (Sent tree)
inductive Tr : Nat → D → Prop
  | str (n : Nat) {z : Str} : okS z → z.length ≤ 100 → Tr n (.str z)
  | int (n : Nat) (i : Int) : Tr n (.int i)
  | non (n : Nat) : Tr n .non
  | tup {n : Nat} {ds : List D} : ds.length ≤ 1000 → (∀ d ∈ ds, Tr n d) → Tr (n + 1) (.tup ds)
theorem Tr.succ : ∀ {n : Nat} {d : D}, Tr n d → Tr (n + 1) d := by
  intro n
  induction n with
  | zero => intro d h; cases h with
    | str => rename_i a b; exact .str _ a b
    | int => exact .int _ _
    | non => exact .non _
  | succ n ih => intro d h; cases h with
    | str => rename_i a b; exact .str _ a b
    | int => exact .int _ _
    | non => exact .non _
    | tup a b => exact .tup a fun d hd => ih (b d hd)
theorem Tr.mono {n m : Nat} {d : D} (h : Tr n d) (hm : n ≤ m) : Tr m d := by
  induction hm with
  | refl => exact h
  | step _ ih => exact ih.succ
theorem same_ok : ∀ (m n : Nat) (d : D) (C : AH) (P : D → AH → Prop), Tr n d → n < m → P (.bl true) C → s_law_same m [d, d] C P := by
  intro m
  induction m with
  | zero => exact fun _ _ _ _ _ h => absurd h (Nat.not_lt_zero _)
  | succ m ih =>
    intro n d C P hL hm k
    show aBody _ (a_law_same (s_law_same m)) _ _ _
    unfold a_law_same
    cases hL with
    | @str n z hz hl =>
      have hR : okR (.str z) 0 = true := by
        show z.cps.all (fun c => decide (c < 0x110000)) = true
        rw [← Array.all_toList]
        exact List.all_eq_true.mpr fun c hc => decide_eq_true (hz c hc)
      have hB : blk (.str z) ≤ 8000 := by show z.length ≤ 8000; omega
      walk_at "go"
      refine g_ifF (fun K hK => ?_) ?_
      · refine g_tru (g_isi2 (g_var rfl (g_kIsi2 (t := "str") rfl ?_)))
        exact g_kTruB hK
      walk_at "go"
      refine g_ifT (fun K hK => ?_) ?_
      · walk_at "go"
        refine g_iteF ?_
        refine g_tru (g_isi2 (g_var rfl (g_kIsi2 (t := "str") rfl ?_)))
        exact g_kTruB hK
      walk_at "go"
      refine g_repr 0 hR (by omega) hB ?_
      walk_at "go"
      refine g_repr 0 hR (by omega) hB ?_
      walk_at "go"
      rw [decide_eq_true rfl]
      exact k
    | int =>
      walk_at "go"
      refine g_ifF (fun K hK => ?_) ?_
      · refine g_tru (g_isi2 (g_var rfl (g_kIsi2 (t := "int") rfl ?_)))
        exact g_kTruB hK
      walk_at "go"
      refine g_ifF (fun K hK => ?_) ?_
      · walk_at "go"
        refine g_iteF ?_
        refine g_tru (g_isi2 (g_var rfl (g_kIsi2 (t := "int") rfl ?_)))
        exact g_kTruB hK
      walk_at "go"
      refine g_kAnd (fun _ => ?_) (fun h => by cases h)
      walk_at "go"
      refine g_kAnd (fun _ => ?_) (fun h => by cases h)
      walk_at "go"
      rw [decide_eq_true rfl]
      exact k
    | non =>
      walk_at "go"
      refine g_ifF (fun K hK => ?_) ?_
      · refine g_tru (g_isi2 (g_var rfl (g_kIsi2 (t := "NoneType") rfl ?_)))
        exact g_kTruB hK
      walk_at "go"
      refine g_ifT (fun K hK => ?_) ?_
      · walk_at "go"
        exact hK
      walk_at "go"
      refine g_repr 0 rfl (by omega) (by simp [blk]) ?_
      walk_at "go"
      refine g_repr 0 rfl (by omega) (by simp [blk]) ?_
      walk_at "go"
      rw [decide_eq_true rfl]
      exact k
    | @tup n ds hl hds =>
      walk_at "go"
      refine g_ifT (fun K hK => ?_) ?_
      · refine g_tru (g_isi2 (g_var rfl (g_kIsi2 (t := "tuple") rfl ?_)))
        exact g_kTruB hK
      walk_at "go"
      refine g_ifF (fun K hK => ?_) ?_
      · refine g_or (g_not (g_tru (g_isi2 (g_var rfl (g_kIsi2 (t := "tuple") rfl ?_)))))
        refine g_kTruB ?_
        refine g_iteNT ?_
        walk_at "go"
        exact hK
      walk_at "go"
      refine g_kAnd (fun _ => ?_) (fun h => absurd rfl (of_decide_eq_false h))
      walk_at "go"
      refine g_izG ?_
      walk_at "go"
      refine g_kIZG (ds := ds) (es := ds) (fun _ => rfl) (fun _ => rfl) ?_
      refine g_kLc (fun i acc C' => acc = List.replicate i (.bl true) ∧ C' = C) (by rw [zipD_len, Nat.min_self]; simp only [sizeLine]; omega) ⟨rfl, rfl⟩ (fun i x acc C' hx hw => ?_) (fun acc C' hw => ?_)
      · obtain ⟨rfl, rfl⟩ := hw
        obtain ⟨a, b, ha, hb, rfl⟩ := zipD_inv hx
        rw [ha] at hb
        cases hb
        walk_at "go"
        refine ih n a _ _ (hds a (List.mem_of_getElem? ha)) (by omega) ?_
        exact ⟨by rw [List.replicate_succ'], rfl⟩
      · obtain ⟨rfl, rfl⟩ := hw
        walk_at "go"
        refine g_all (blsD_true _) ?_
        rw [all_true]
        exact k
theorem tr_tree {tg : List Str} (ht : Tongue tg) : ∀ {d : Nat} {s : Sent}, FitV tg d s → Tr d (tree s) := by
  intro d
  induction d with
  | zero => intro s h; exact h.elim
  | succ d ih =>
    intro s h
    obtain ⟨w, ps, hp⟩ := prts_of ht h
    rw [hp.tr]
    refine .tup (by rw [List.length_cons, List.length_map]; have := hp.few; omega) fun x hx => ?_
    rcases List.mem_cons.mp hx with e | e
    · rw [e]; exact .str _ hp.head.2.2 (by have := hp.head.1; omega)
    · obtain ⟨p, hpm, rfl⟩ := List.mem_map.mp e
      have := hp.pt p hpm
      generalize p.1 = a at this
      generalize p.2 = b at this
      cases this with
      | non => exact .non _
      | num => exact .int _ _
      | str hz => exact .str _ hz.2.2 (by have := hz.1; omega)
      | sen hF => exact ih hF
theorem tr_rule {tg : List Str} {ss : List Sent} (hr : Rl tg ss) : Tr 6 (ruleD tg ss) := by
  have ht := hr.tn
  refine .tup (by simp) fun x hx => ?_
  simp only [List.mem_cons, List.not_mem_nil, or_false] at hx
  rcases hx with rfl | rfl
  · refine Tr.mono (n := 1) (.tup (by rw [List.length_map]; have := ht.most; omega) fun y hy => ?_) (by omega)
    obtain ⟨z, hz, rfl⟩ := List.mem_map.mp hy
    refine .str _ (fun c hc => ?_) (by have := ht.six z hz; omega)
    have := (zs_good ht c (by
      unfold Zs
      rw [join_toList]
      exact List.mem_flatten.mpr ⟨_, List.mem_map.mpr ⟨z, hz, rfl⟩, hc⟩)).2
    omega
  · refine .tup (by unfold sL; rw [List.length_map]; have := hr.few; omega) fun y hy => ?_
    obtain ⟨s, hs, rfl⟩ := List.mem_map.mp hy
    exact tr_tree ht (hr.ok s hs).1
def innerS : Sent := .both .apart .apart
def fullS : Sent := .both (.both innerS .apart) innerS
theorem full_ok (tg : List Str) : Sv tg fullS := ⟨⟨⟨⟨trivial, trivial⟩, trivial⟩, trivial, trivial⟩, by decide⟩
theorem full_words : Txt.split "both both both apart apart apart both apart apart" " " = wordsT fullS := by decide +kernel
theorem full_okD : okD (.lst [.str (sentT fullS)]) 2 = true := by decide +kernel
theorem law_true : ∀ ns : List Int, ns.length ≤ 63 → s_law [.scr ns] (fun _ => none) (fun d _ => d = .bl true) := by
  intro ns hns
  unfold s_law a_law
  walk_at "go"
  refine pen_ok (j := 0) fun p c hp hc => ?_
  have hP := pen_put (C := fun _ => none) (p := p) hc
  generalize put (fun _ => none) p c = C at hP ⊢
  walk_at "go"
  refine rule_drawn (most := 8) (by omega) hP fun tg1 ss1 C1 hr1 => ?_
  walk_at "go"
  refine pen_ok (j := 31) fun p2 c2 hp2 hc2 => ?_
  have hP2 := pen_put (C := C1) (p := p2) hc2
  generalize put C1 p2 c2 = C2 at hP2 ⊢
  walk_at "go"
  refine rule_drawn (most := 3) (by omega) hP2 fun tg2 ss2 C3 hr2 => ?_
  walk_at "go"
  refine g_split (by decide +kernel) (by decide +kernel) ?_
  rw [full_words]
  walk_at "go"
  have ht := hr1.tn
  have hfull : Rl tg1 [fullS] := ⟨ht, by simp, fun s hs => by rw [List.mem_singleton.mp hs]; exact full_ok tg1⟩
  have hF4 := (full_ok tg1).1
  show aIx (ruleD tg1 ss1) (.int 0) _ _
  unfold ruleD
  walk_at "go"
  have hjoin : ∀ (C : AH) (Q : D → AH → Prop), Q (.str (sentT fullS)) C → aJoin (.str " ") [.lst (strsL (wordsT fullS))] C Q := fun C Q h =>
    join_ok' one_blank (m := 7) (by omega) (fun y hy => (words_ok ht hF4 y hy).1) (by have := words_63 hF4 (by omega); omega) h
  refine g_ifFC (Z := fun _ => True) (fun K hK => ?_) (fun C4 _ => ?_)
  · walk_at "go"
    refine hjoin _ _ ?_
    walk_at "go"
    refine (law_words_ok ht 4 fullS hF4 (by omega) 8 _ _ (by omega) fun C4 hK4 => ?_ : s_law_words 8 [tree fullS] _ _)
    walk_at "go"
    refine hjoin _ _ ?_
    walk_at "go"
    refine g_neR 2 full_okD (by omega) ?_
    walk_at "go"
    exact hK _ trivial
  walk_at "go"
  refine g_addL (by simp only [List.length_cons, List.length_nil, sizeLine]; omega) ?_
  walk_at "go"
  refine g_addL (by simp only [List.length_append, List.length_cons, List.length_nil, sizeLine]; omega) ?_
  walk_at "go"
  refine g_addL (by simp only [List.length_append, List.length_cons, List.length_nil, sizeLine]; omega) ?_
  walk_at "go"
  have hall : ∀ d ∈ ([ruleD tg1 ss1, ruleD tg2 ss2] ++ [ruleD tg1 [fullS]] ++ [ruleD tg1 ss1, ruleD tg2 ss2] ++ [ruleD tg1 [fullS]] : List D), ∃ tg ss, Rl tg ss ∧ d = ruleD tg ss := by
    intro d hd
    simp only [List.cons_append, List.nil_append, List.mem_cons, List.not_mem_nil, or_false] at hd
    rcases hd with rfl | rfl | rfl | rfl | rfl | rfl
    · exact ⟨_, _, hr1, rfl⟩
    · exact ⟨_, _, hr2, rfl⟩
    · exact ⟨_, _, hfull, rfl⟩
    · exact ⟨_, _, hr1, rfl⟩
    · exact ⟨_, _, hr2, rfl⟩
    · exact ⟨_, _, hfull, rfl⟩
  refine g_kForL (fun i st C' => ∃ x1 x2 x3 x4 x5 x6 x7, st = [some (.scr ns), x1, x2, x3, x4, x5, x6, x7]) ⟨_, _, _, _, _, _, _, rfl⟩ (fun i d st C5 hi hw => ?_) (fun st C5 hw => ?_)
  · obtain ⟨x1, x2, x3, x4, x5, x6, x7, rfl⟩ := hw
    obtain ⟨tg, ss, hr, rfl⟩ := hall d (List.mem_of_getElem? hi)
    walk_at "go"
    refine law_text_ok hr fun C6 => ?_
    walk_at "go"
    refine show_rule_ok hr ?_
    walk_at "go"
    refine g_ifFC (Z := fun _ => True) (fun K hK => ?_) (fun C7 _ => ?_)
    · walk_at "go"
      rw [show isT "str" "str" = true from rfl]
      walk_at "go"
      rw [decide_eq_true rfl]
      walk_at "go"
      refine read_rule_ok hr fun C8 => ?_
      walk_at "go"
      refine same_ok 8 6 _ _ _ (tr_rule hr) (by omega) ?_
      walk_at "go"
      exact hK _ trivial
    walk_at "go"
    exact ⟨_, _, _, _, _, _, _, rfl⟩
  · obtain ⟨x1, x2, x3, x4, x5, x6, x7, rfl⟩ := hw
    walk_at "go"
    rfl
end A_k56

namespace A_k56
open PySem PySem.Spec L2 AL
open PyProof.Rows (envOfC)
def topS (i : Nat) : Stmt := PySem.Challenge.pw_wordrules_k56_rule_texts.main.body.getD i (.Pass ⟨0, 0, 0, 0⟩)
abbrev st_is_whole : Stmt := topS 10
theorem sc_is_whole : FnScope ["thing"] ["thing"] (defScope st_is_whole) := ⟨rfl, rfl, rfl, by decide +kernel, rfl, by decide +kernel, by decide +kernel⟩
theorem ok_is_whole {P : Program} {w : World} {K : PySem.W.Frag} {mg : Str → Option Value} {base : Heap} {f : Addr} {fd : FuncData} (F : L2.Fun K "is_whole" "is_whole" st_is_whole f fd) (hm : mg "is_whole" = some (.ref f)) (hb : Binds K fd ["thing"] []) (m_bool : mg "bool" = none) (m_int : mg "int" = none) (m_isinstance : mg "isinstance" = none) : Cal P w K mg base 1 "is_whole" 1 s_is_whole := by
  refine calA (b := a_is_whole) F sc_is_whole rfl hm hb ?_ (fun _ _ _ _ h => h)
  intro cdv A outer s H E hr hgd
  exact ⟨_, ass_one (as_ret (ae_and (K := K) (ae_isi (K := K) (ae_v 0) m_isinstance m_int (by decide +kernel)) (ae_one (ae_not (K := K) (ae_isi (K := K) (ae_v 0) m_isinstance m_bool (by decide +kernel))))))⟩

abbrev st_is_sign : Stmt := topS 11
theorem sc_is_sign : FnScope ["thing"] ["thing"] (defScope st_is_sign) := ⟨rfl, rfl, rfl, by decide +kernel, rfl, by decide +kernel, by decide +kernel⟩
theorem ok_is_sign {P : Program} {w : World} {K : PySem.W.Frag} {mg : Str → Option Value} {base : Heap} {f : Addr} {fd : FuncData} (F : L2.Fun K "is_sign" "is_sign" st_is_sign f fd) (hm : mg "is_sign" = some (.ref f)) (hb : Binds K fd ["thing"] []) (m_len : mg "len" = none) (m_ord : mg "ord" = none) (g_FIRST_SIGN : ∃ u, mg "FIRST_SIGN" = some u ∧ RelV (.int 33) u) (g_LAST_SIGN : ∃ u, mg "LAST_SIGN" = some u ∧ RelV (.int 126) u) (g_NO_SIGN : ∃ u, mg "NO_SIGN" = some u ∧ RelV (.int 37) u) : Cal P w K mg base 1 "is_sign" 1 s_is_sign := by
  refine calA (b := a_is_sign) F sc_is_sign rfl hm hb ?_ (fun _ _ _ _ h => h)
  intro cdv A outer s H E hr hgd
  exact ⟨_, ass_one (as_ret (ae_and (K := K) (ae_cmp (ao_eq (K := K) hr.units) (ae_callB (ac_len (K := K)) m_len (by decide +kernel) (aa_cons (ae_v 0) (aa_nil))) (ae_int)) (ae_and (K := K) (ae_chain ao_le ao_le (ae_gint g_FIRST_SIGN) (ae_callB ac_ord m_ord (by decide +kernel) (aa_cons (ae_v 0) (aa_nil))) (ae_gint g_LAST_SIGN)) (ae_one (ae_cmp (ao_ne (K := K) hr.units) (ae_callB ac_ord m_ord (by decide +kernel) (aa_cons (ae_v 0) (aa_nil))) (ae_gint g_NO_SIGN))))))⟩

abbrev st_signs_of : Stmt := topS 13
theorem sc_signs_of : FnScope ["tongue"] ["tongue"] (defScope st_signs_of) := ⟨rfl, rfl, rfl, by decide +kernel, rfl, by decide +kernel, by decide +kernel⟩
theorem ok_signs_of {P : Program} {w : World} {K : PySem.W.Frag} {mg : Str → Option Value} {base : Heap} {f : Addr} {fd : FuncData} (F : L2.Fun K "signs_of" "signs_of" st_signs_of f fd) (hm : mg "signs_of" = some (.ref f)) (hb : Binds K fd ["tongue"] []) : Cal P w K mg base 1 "signs_of" 1 s_signs_of := by
  refine calA (b := a_signs_of) F sc_signs_of rfl hm hb ?_ (fun _ _ _ _ h => h)
  intro cdv A outer s H E hr hgd
  exact ⟨_, ass_one (as_ret (ae_meth (K := K) PySem.F.plainAttrs_str PySem.F.slot_str_join PySem.F.type_str_join (am_join (K := K)) (ae_str) (aa_cons (ae_v 0) (aa_nil))))⟩

abbrev st_parts_of : Stmt := topS 25
theorem sc_parts_of : FnScope ["sentence"] ["sentence"] (defScope st_parts_of) := ⟨rfl, rfl, rfl, by decide +kernel, rfl, by decide +kernel, by decide +kernel⟩
theorem ok_parts_of {P : Program} {w : World} {K : PySem.W.Frag} {mg : Str → Option Value} {base : Heap} {f : Addr} {fd : FuncData} (F : L2.Fun K "parts_of" "parts_of" st_parts_of f fd) (hm : mg "parts_of" = some (.ref f)) (hb : Binds K fd ["sentence"] []) (m_list : mg "list" = none) : Cal P w K mg base 1 "parts_of" 1 s_parts_of := by
  refine calA (b := a_parts_of) F sc_parts_of rfl hm hb ?_ (fun _ _ _ _ h => h)
  intro cdv A outer s H E hr hgd
  exact ⟨_, ass_cons (as_if (at_cmp ao_inL (ae_ix (K := K) (ae_v 0) (ae_int)) (ae_tup (aa_cons (ae_str) (aa_cons (ae_str) (aa_cons (ae_str) (aa_nil))))))
      (ass_one (as_ret (ae_callT (ac_list (K := K)) m_list (by decide +kernel) (aa_cons (ae_cut (K := K) (ae_v 0) (ao_some (ae_int)) ao_none) (aa_nil)))))
      (ass_nil))
      (ass_one (as_ret (ae_lst (aa_nil))))⟩

abbrev st_show_sentence : Stmt := topS 33
theorem sc_show_sentence : FnScope ["sentence", "found", "part"] ["sentence"] (defScope st_show_sentence) := ⟨rfl, rfl, rfl, by decide +kernel, rfl, by decide +kernel, by decide +kernel⟩
theorem ok_show_sentence {P : Program} {w : World} {K : PySem.W.Frag} {mg : Str → Option Value} {base : Heap} {f : Addr} {fd : FuncData} (F : L2.Fun K "show_sentence" "show_sentence" st_show_sentence f fd) (hm : mg "show_sentence" = some (.ref f)) (hb : Binds K fd ["sentence"] []) (m_isinstance : mg "isinstance" = none) (m_str : mg "str" = none) (m_tuple : mg "tuple" = none) : ∀ d, Cal P w K mg base (1 + d) "show_sentence" 1 (s_show_sentence d)
  | 0 => by
    refine calA (b := aNoS) F sc_show_sentence rfl hm hb ?_ (fun _ _ _ _ h => h.elim)
    intro cdv A outer s H E hr hgd
    exact ⟨_, ass_no⟩
  | d + 1 => by
    have c_show_sentence := ok_show_sentence (P := P) (w := w) (base := base) F hm hb m_isinstance m_str m_tuple d
    refine calA (b := a_show_sentence (s_show_sentence d)) F sc_show_sentence rfl hm hb ?_ (fun _ _ _ _ h => h)
    intro cdv A outer s H E hr hgd
    exact ⟨_, ass_cons (as_set 1 sc_show_sentence.nd (ae_ix (K := K) (ae_v 0) (ae_int)) rfl (.inl rfl))
      (ass_cons (as_for (ai_tup (K := K) (ae_cut (K := K) (ae_v 0) (ao_some (ae_int)) ao_none)) (ag_name 2 (vs := [2]) sc_show_sentence.nd rfl (.inl rfl))
      (ass_one (as_if (at_tru (K := K) (ae_isi (K := K) (ae_v 2) m_isinstance m_tuple (by decide +kernel)))
      (ass_one (as_set 1 sc_show_sentence.nd (ae_op (ao_add (K := K)) (ae_op (ao_add (K := K)) (ae_v 1) (ae_str)) (ae_call (K := K) (hk := by first | exact Nat.le_refl _ | exact Nat.le_trans (by decide) (Nat.le_add_right 1 d)) c_show_sentence hr hgd (aa_cons (ae_v 2) (aa_nil)))) rfl (.inl rfl)))
      (ass_one (as_if (at_cmp ao_is (ae_v 2) (ae_non))
      (ass_one (as_set 1 sc_show_sentence.nd (ae_op (ao_add (K := K)) (ae_v 1) (ae_str)) rfl (.inl rfl)))
      (ass_one (as_set 1 sc_show_sentence.nd (ae_op (ao_add (K := K)) (ae_op (ao_add (K := K)) (ae_v 1) (ae_str)) (ae_callT ac_strA m_str (by decide +kernel) (aa_cons (ae_v 2) (aa_nil)))) rfl (.inl rfl))))))))
      (ass_one (as_ret (ae_v 1))))⟩

abbrev st_read_number : Stmt := topS 35
theorem sc_read_number : FnScope ["word", "sign"] ["word"] (defScope st_read_number) := ⟨rfl, rfl, rfl, by decide +kernel, rfl, by decide +kernel, by decide +kernel⟩
theorem ok_read_number {P : Program} {w : World} {K : PySem.W.Frag} {mg : Str → Option Value} {base : Heap} {f : Addr} {fd : FuncData} (F : L2.Fun K "read_number" "read_number" st_read_number f fd) (hm : mg "read_number" = some (.ref f)) (hb : Binds K fd ["word"] []) (m_all : mg "all" = none) (m_int : mg "int" = none) (m_len : mg "len" = none) : Cal P w K mg base 1 "read_number" 1 s_read_number := by
  refine calA (b := a_read_number) F sc_read_number rfl hm hb ?_ (fun _ _ _ _ h => h)
  intro cdv A outer s H E hr hgd
  exact ⟨_, ass_cons (as_if (aw_t (aw_or (at_cmp ao_ninL (ae_callB (ac_len (K := K)) m_len (by decide +kernel) (aa_cons (ae_v 0) (aa_nil))) (ae_tup (aa_cons (ae_int) (aa_cons (ae_int) (aa_nil))))) (aw_or1 (at_not (at_tru (K := K) (ae_callB (ac_all (K := K)) m_all (by decide +kernel) (aa_cons (ae_lc [("sign", 1)] sc_read_number.nd (ai_str (ae_v 0)) (blkOk_by (own := [("sign", 1)]) (N := ["word", "sign"]) (sc := defScope st_read_number) (by decide +kernel)) (fun _ _ _ _ _ => ag_name 1 (vs := [1]) sc_read_number.nd rfl (.inl rfl)) (fun _ _ _ _ _ => ats_nil) (fun _ _ _ _ _ => ae_cmp ao_inS (ae_v 1) (ae_str))) (aa_nil))))))))
      (ass_one (as_no))
      (ass_nil))
      (ass_cons (as_if (aw_t (aw_and (at_cmp (ao_eq (K := K) hr.units) (ae_callB (ac_len (K := K)) m_len (by decide +kernel) (aa_cons (ae_v 0) (aa_nil))) (ae_int)) (aw_and1 (at_cmp (ao_eq (K := K) hr.units) (ae_ix (K := K) (ae_v 0) (ae_int)) (ae_str)))))
      (ass_one (as_no))
      (ass_nil))
      (ass_one (as_ret (ae_callT ac_intS m_int (by decide +kernel) (aa_cons (ae_v 0) (aa_nil))))))⟩

abbrev st_word_there : Stmt := topS 36
theorem sc_word_there : FnScope ["words", "at"] ["words", "at"] (defScope st_word_there) := ⟨rfl, rfl, rfl, by decide +kernel, rfl, by decide +kernel, by decide +kernel⟩
theorem ok_word_there {P : Program} {w : World} {K : PySem.W.Frag} {mg : Str → Option Value} {base : Heap} {f : Addr} {fd : FuncData} (F : L2.Fun K "word_there" "word_there" st_word_there f fd) (hm : mg "word_there" = some (.ref f)) (hb : Binds K fd ["words", "at"] []) (m_len : mg "len" = none) : Cal P w K mg base 1 "word_there" 2 s_word_there := by
  refine calA (b := a_word_there) F sc_word_there rfl hm hb ?_ (fun _ _ _ _ h => h)
  intro cdv A outer s H E hr hgd
  exact ⟨_, ass_cons (as_if (at_cmp ao_ge (ae_v 1) (ae_callB (ac_len (K := K)) m_len (by decide +kernel) (aa_cons (ae_v 0) (aa_nil))))
      (ass_one (as_no))
      (ass_nil))
      (ass_one (as_ret (ae_ix (K := K) (ae_v 0) (ae_v 1))))⟩

abbrev st_law_pen : Stmt := topS 42
theorem sc_law_pen : FnScope ["_law_script", "_law_first"] ["_law_script", "_law_first"] (defScope st_law_pen) := ⟨rfl, rfl, rfl, by decide +kernel, rfl, by decide +kernel, by decide +kernel⟩
theorem ok_law_pen {P : Program} {w : World} {K : PySem.W.Frag} {mg : Str → Option Value} {base : Heap} {f : Addr} {fd : FuncData} (F : L2.Fun K "_law_pen" "_law_pen" st_law_pen f fd) (hm : mg "_law_pen" = some (.ref f)) (hb : Binds K fd ["_law_script", "_law_first"] []) : Cal P w K mg base 1 "_law_pen" 2 s_law_pen := by
  refine calA (b := a_law_pen) F sc_law_pen rfl hm hb ?_ (fun _ _ _ _ h => h)
  intro cdv A outer s H E hr hgd
  exact ⟨_, ass_one (as_ret (ae_disp (aps_str (ae_v 0) (aps_str (ae_v 1) (aps_str (ae_int) (aps_nil))))))⟩

abbrev st_law_mixed : Stmt := topS 43
theorem sc_law_mixed : FnScope ["_law_cell", "_law_k", "_law_one", "_law_two"] ["_law_cell", "_law_k"] (defScope st_law_mixed) := ⟨rfl, rfl, rfl, by decide +kernel, rfl, by decide +kernel, by decide +kernel⟩
theorem ok_law_mixed {P : Program} {w : World} {K : PySem.W.Frag} {mg : Str → Option Value} {base : Heap} {f : Addr} {fd : FuncData} (F : L2.Fun K "_law_mixed" "_law_mixed" st_law_mixed f fd) (hm : mg "_law_mixed" = some (.ref f)) (hb : Binds K fd ["_law_cell", "_law_k"] []) : Cal P w K mg base 1 "_law_mixed" 2 s_law_mixed := by
  refine calA (b := a_law_mixed) F sc_law_mixed rfl hm hb ?_ (fun _ _ _ _ h => h)
  intro cdv A outer s H E hr hgd
  exact ⟨_, ass_cons (as_set 2 sc_law_mixed.nd (ae_op ao_mod (ae_op ao_mul (ae_op (ao_add (K := K)) (ae_op (ao_add (K := K)) (ae_op ao_mod (ae_v 0) (ae_int)) (ae_op ao_mul (ae_int) (ae_v 1))) (ae_int)) (ae_int)) (ae_int)) rfl (.inl rfl))
      (ass_cons (as_set 3 sc_law_mixed.nd (ae_op ao_mod (ae_op (ao_add (K := K)) (ae_op (ao_add (K := K)) (ae_op ao_mul (ae_v 2) (ae_v 2)) (ae_op ao_mul (ae_int) (ae_v 2))) (ae_v 1)) (ae_int)) rfl (.inl rfl))
      (ass_one (as_ret (ae_op ao_div (ae_op ao_mod (ae_op (ao_add (K := K)) (ae_op (ao_add (K := K)) (ae_op ao_mul (ae_v 3) (ae_v 3)) (ae_op ao_mul (ae_int) (ae_v 3))) (ae_op ao_mul (ae_int) (ae_v 1))) (ae_int)) (ae_int)))))⟩

abbrev st_law_words : Stmt := topS 51
theorem sc_law_words : FnScope ["_law_sentence_here", "_law_words_here", "_law_part"] ["_law_sentence_here"] (defScope st_law_words) := ⟨rfl, rfl, rfl, by decide +kernel, rfl, by decide +kernel, by decide +kernel⟩
theorem ok_law_words {P : Program} {w : World} {K : PySem.W.Frag} {mg : Str → Option Value} {base : Heap} {f : Addr} {fd : FuncData} (F : L2.Fun K "_law_words" "_law_words" st_law_words f fd) (hm : mg "_law_words" = some (.ref f)) (hb : Binds K fd ["_law_sentence_here"] []) (m_isinstance : mg "isinstance" = none) (m_str : mg "str" = none) (m_tuple : mg "tuple" = none) : ∀ d, Cal P w K mg base (1 + d) "_law_words" 1 (s_law_words d)
  | 0 => by
    refine calA (b := aNoS) F sc_law_words rfl hm hb ?_ (fun _ _ _ _ h => h.elim)
    intro cdv A outer s H E hr hgd
    exact ⟨_, ass_no⟩
  | d + 1 => by
    have c_law_words := ok_law_words (P := P) (w := w) (base := base) F hm hb m_isinstance m_str m_tuple d
    refine calA (b := a_law_words (s_law_words d)) F sc_law_words rfl hm hb ?_ (fun _ _ _ _ h => h)
    intro cdv A outer s H E hr hgd
    exact ⟨_, ass_cons (as_set 1 sc_law_words.nd (ae_lstM (aa_cons (ae_ix (K := K) (ae_v 0) (ae_int)) (aa_nil))) rfl (.inl rfl))
      (ass_cons (as_for (ai_tup (K := K) (ae_cut (K := K) (ae_v 0) (ao_some (ae_int)) ao_none)) (ag_name 2 (vs := [2]) sc_law_words.nd rfl (.inl rfl))
      (ass_one (as_if (at_tru (K := K) (ae_isi (K := K) (ae_v 2) m_isinstance m_tuple (by decide +kernel)))
      (ass_one (as_set 1 sc_law_words.nd (ae_op ao_addM (ae_v 1) (ae_call (K := K) (hk := by first | exact Nat.le_refl _ | exact Nat.le_trans (by decide) (Nat.le_add_right 1 d)) c_law_words hr hgd (aa_cons (ae_v 2) (aa_nil)))) rfl (.inl rfl)))
      (ass_one (as_if (at_cmp ao_is (ae_v 2) (ae_non))
      (ass_one (as_expr (ae_meth (K := K) PySem.F.plainAttrs_list PySem.F.slot_list_append PySem.F.type_list_append am_append (ae_v 1) (aa_cons (ae_str) (aa_nil)))))
      (ass_one (as_expr (ae_meth (K := K) PySem.F.plainAttrs_list PySem.F.slot_list_append PySem.F.type_list_append am_append (ae_v 1) (aa_cons (ae_callT ac_strA m_str (by decide +kernel) (aa_cons (ae_v 2) (aa_nil))) (aa_nil))))))))))
      (ass_frz 1 (ass_one (as_ret (ae_v 1)))))⟩

abbrev st_law_same : Stmt := topS 53
theorem sc_law_same : FnScope ["_law_got", "_law_due", "_law_one", "_law_other"] ["_law_got", "_law_due"] (defScope st_law_same) := ⟨rfl, rfl, rfl, by decide +kernel, rfl, by decide +kernel, by decide +kernel⟩
theorem ok_law_same {P : Program} {w : World} {K : PySem.W.Frag} {mg : Str → Option Value} {base : Heap} {f : Addr} {fd : FuncData} (F : L2.Fun K "_law_same" "_law_same" st_law_same f fd) (hm : mg "_law_same" = some (.ref f)) (hb : Binds K fd ["_law_got", "_law_due"] []) (m_all : mg "all" = none) (m_bool : mg "bool" = none) (m_int : mg "int" = none) (m_isinstance : mg "isinstance" = none) (m_len : mg "len" = none) (m_list : mg "list" = none) (m_repr : mg "repr" = none) (m_str : mg "str" = none) (m_tuple : mg "tuple" = none) (m_zip : mg "zip" = none) : ∀ d, Cal P w K mg base (1 + d) "_law_same" 2 (s_law_same d)
  | 0 => by
    refine calA (b := aNoS) F sc_law_same rfl hm hb ?_ (fun _ _ _ _ h => h.elim)
    intro cdv A outer s H E hr hgd
    exact ⟨_, ass_no⟩
  | d + 1 => by
    have c_law_same := ok_law_same (P := P) (w := w) (base := base) F hm hb m_all m_bool m_int m_isinstance m_len m_list m_repr m_str m_tuple m_zip d
    refine calA (b := a_law_same (s_law_same d)) F sc_law_same rfl hm hb ?_ (fun _ _ _ _ h => h)
    intro cdv A outer s H E hr hgd
    exact ⟨_, ass_cons (as_if (at_tru (K := K) (ae_isi2 (K := K) (ae_v 1) m_isinstance m_list m_tuple (by decide +kernel) (by decide +kernel)))
      (ass_cons (as_if (aw_t (aw_or (at_not (at_tru (K := K) (ae_isi2 (K := K) (ae_v 0) m_isinstance m_list m_tuple (by decide +kernel) (by decide +kernel)))) (aw_or1 (at_cmp (ao_ne (K := K) hr.units) (ae_isi (K := K) (ae_v 0) m_isinstance m_list (by decide +kernel)) (ae_isi (K := K) (ae_v 1) m_isinstance m_list (by decide +kernel))))))
      (ass_one (as_ret (ae_bl)))
      (ass_nil))
      (ass_one (as_ret (ae_and (K := K) (ae_cmp (ao_eq (K := K) hr.units) (ae_callB (ac_len (K := K)) m_len (by decide +kernel) (aa_cons (ae_v 0) (aa_nil))) (ae_callB (ac_len (K := K)) m_len (by decide +kernel) (aa_cons (ae_v 1) (aa_nil)))) (ae_one (ae_callB (ac_all (K := K)) m_all (by decide +kernel) (aa_cons (ae_lc [("_law_one", 2), ("_law_other", 3)] sc_law_same.nd (ai_zipG (K := K) m_zip (aa_cons (ae_v 0) (aa_cons (ae_v 1) (aa_nil)))) (blkOk_by (own := [("_law_one", 2), ("_law_other", 3)]) (N := ["_law_got", "_law_due", "_law_one", "_law_other"]) (sc := defScope st_law_same) (by decide +kernel)) (fun _ _ _ _ _ => ag_tup (K := K) (ags_cons (ag_name 2 (vs := [2, 3]) sc_law_same.nd rfl (.inl rfl)) (ags_cons (ag_name 3 (vs := [2, 3]) sc_law_same.nd rfl (.inl rfl)) (ags_nil)))) (fun _ _ _ _ _ => ats_nil) (fun _ _ _ _ _ => ae_call (K := K) (hk := by first | exact Nat.le_refl _ | exact Nat.le_trans (by decide) (Nat.le_add_right 1 d)) c_law_same hr hgd (aa_cons (ae_v 2) (aa_cons (ae_v 3) (aa_nil))))) (aa_nil))))))))
      (ass_nil))
      (ass_cons (as_if (aw_t (aw_or (at_cmp ao_is (ae_v 1) (ae_non)) (aw_or1 (at_tru (K := K) (ae_isi2 (K := K) (ae_v 1) m_isinstance m_bool m_str (by decide +kernel) (by decide +kernel))))))
      (ass_one (as_ret (ae_cmp (ao_eq (K := K) hr.units) (ae_callB (ac_repr (K := K) hgd (u200 hr)) m_repr (by decide +kernel) (aa_cons (ae_v 0) (aa_nil))) (ae_callB (ac_repr (K := K) hgd (u200 hr)) m_repr (by decide +kernel) (aa_cons (ae_v 1) (aa_nil))))))
      (ass_nil))
      (ass_one (as_ret (ae_and (K := K) (ae_isi (K := K) (ae_v 0) m_isinstance m_int (by decide +kernel)) (ae_and (K := K) (ae_not (K := K) (ae_isi (K := K) (ae_v 0) m_isinstance m_bool (by decide +kernel))) (ae_one (ae_cmp (ao_eq (K := K) hr.units) (ae_v 0) (ae_v 1))))))))⟩

abbrev st_is_tongue : Stmt := topS 12
theorem sc_is_tongue : FnScope ["thing", "signs", "sign", "kind"] ["thing"] (defScope st_is_tongue) := ⟨rfl, rfl, rfl, by decide +kernel, rfl, by decide +kernel, by decide +kernel⟩
theorem ok_is_tongue {P : Program} {w : World} {K : PySem.W.Frag} {mg : Str → Option Value} {base : Heap} {f : Addr} {fd : FuncData} (F : L2.Fun K "is_tongue" "is_tongue" st_is_tongue f fd) (hm : mg "is_tongue" = some (.ref f)) (hb : Binds K fd ["thing"] []) (m_all : mg "all" = none) (m_isinstance : mg "isinstance" = none) (m_len : mg "len" = none) (m_set : mg "set" = none) (m_str : mg "str" = none) (m_tuple : mg "tuple" = none) (g_MOST_IN_KIND : ∃ u, mg "MOST_IN_KIND" = some u ∧ RelV (.int 6) u) (g_MOST_KINDS : ∃ u, mg "MOST_KINDS" = some u ∧ RelV (.int 4) u) (g_MOST_SIGNS : ∃ u, mg "MOST_SIGNS" = some u ∧ RelV (.int 12) u) (c_is_sign : Cal P w K mg base 1 "is_sign" 1 s_is_sign) : Cal P w K mg base 2 "is_tongue" 1 s_is_tongue := by
  refine calA (b := a_is_tongue) F sc_is_tongue rfl hm hb ?_ (fun _ _ _ _ h => h)
  intro cdv A outer s H E hr hgd
  exact ⟨_, ass_cons (as_if (aw_t (aw_or (at_not (at_tru (K := K) (ae_isi (K := K) (ae_v 0) m_isinstance m_tuple (by decide +kernel)))) (aw_or1 (at_not (at_chain ao_le ao_le (ae_int) (ae_callB (ac_len (K := K)) m_len (by decide +kernel) (aa_cons (ae_v 0) (aa_nil))) (ae_gint g_MOST_KINDS))))))
      (ass_one (as_ret (ae_bl)))
      (ass_nil))
      (ass_cons (as_if (at_not (at_tru (K := K) (ae_callB (ac_all (K := K)) m_all (by decide +kernel) (aa_cons (ae_lc [("kind", 3)] sc_is_tongue.nd (ai_tup (K := K) (ae_v 0)) (blkOk_by (own := [("kind", 3)]) (N := ["thing", "signs", "sign", "kind"]) (sc := defScope st_is_tongue) (by decide +kernel)) (fun _ _ _ _ _ => ag_name 3 (vs := [3]) sc_is_tongue.nd rfl (.inl rfl)) (fun _ _ _ _ _ => ats_nil) (fun _ _ _ _ _ => ae_and (K := K) (ae_isi (K := K) (ae_v 3) m_isinstance m_str (by decide +kernel)) (ae_one (ae_chain ao_le ao_le (ae_int) (ae_callB (ac_len (K := K)) m_len (by decide +kernel) (aa_cons (ae_v 3) (aa_nil))) (ae_gint g_MOST_IN_KIND))))) (aa_nil)))))
      (ass_one (as_ret (ae_bl)))
      (ass_nil))
      (ass_cons (as_set 1 sc_is_tongue.nd (ae_meth (K := K) PySem.F.plainAttrs_str PySem.F.slot_str_join PySem.F.type_str_join (am_join (K := K)) (ae_str) (aa_cons (ae_v 0) (aa_nil))) rfl (.inl rfl))
      (ass_cons (as_if (aw_t (aw_or (at_cmp ao_gt (ae_callB (ac_len (K := K)) m_len (by decide +kernel) (aa_cons (ae_v 1) (aa_nil))) (ae_gint g_MOST_SIGNS)) (aw_or1 (at_cmp ao_lt (ae_lenSetT m_len m_set (ae_v 1)) (ae_callB (ac_len (K := K)) m_len (by decide +kernel) (aa_cons (ae_v 1) (aa_nil)))))))
      (ass_one (as_ret (ae_bl)))
      (ass_nil))
      (ass_one (as_ret (ae_callB (ac_all (K := K)) m_all (by decide +kernel) (aa_cons (ae_lc [("sign", 2)] sc_is_tongue.nd (ai_str (ae_v 1)) (blkOk_by (own := [("sign", 2)]) (N := ["thing", "signs", "sign", "kind"]) (sc := defScope st_is_tongue) (by decide +kernel)) (fun _ _ _ _ _ => ag_name 2 (vs := [2]) sc_is_tongue.nd rfl (.inl rfl)) (fun _ _ _ _ _ => ats_nil) (fun _ _ _ _ _ => ae_call (K := K) c_is_sign hr hgd (aa_cons (ae_v 2) (aa_nil)))) (aa_nil))))))))⟩

abbrev st_has_signs : Stmt := topS 14
theorem sc_has_signs : FnScope ["tongue", "text", "signs", "sign"] ["tongue", "text"] (defScope st_has_signs) := ⟨rfl, rfl, rfl, by decide +kernel, rfl, by decide +kernel, by decide +kernel⟩
theorem ok_has_signs {P : Program} {w : World} {K : PySem.W.Frag} {mg : Str → Option Value} {base : Heap} {f : Addr} {fd : FuncData} (F : L2.Fun K "has_signs" "has_signs" st_has_signs f fd) (hm : mg "has_signs" = some (.ref f)) (hb : Binds K fd ["tongue", "text"] []) (m_all : mg "all" = none) (c_signs_of : Cal P w K mg base 1 "signs_of" 1 s_signs_of) : Cal P w K mg base 2 "has_signs" 2 s_has_signs := by
  refine calA (b := a_has_signs) F sc_has_signs rfl hm hb ?_ (fun _ _ _ _ h => h)
  intro cdv A outer s H E hr hgd
  exact ⟨_, ass_cons (as_set 2 sc_has_signs.nd (ae_call (K := K) c_signs_of hr hgd (aa_cons (ae_v 0) (aa_nil))) rfl (.inr rfl))
      (ass_one (as_ret (ae_callB (ac_all (K := K)) m_all (by decide +kernel) (aa_cons (ae_lc [("sign", 3)] sc_has_signs.nd (ai_str (ae_v 1)) (blkOk_by (own := [("sign", 3)]) (N := ["tongue", "text", "signs", "sign"]) (sc := defScope st_has_signs) (by decide +kernel)) (fun _ _ _ _ _ => ag_name 3 (vs := [3]) sc_has_signs.nd rfl (.inl rfl)) (fun _ _ _ _ _ => ats_nil) (fun _ _ _ _ _ => ae_cmp ao_inS (ae_v 3) (ae_v 2))) (aa_nil)))))⟩

abbrev st_is_within : Stmt := topS 21
theorem sc_is_within : FnScope ["thing", "low", "high"] ["thing", "low", "high"] (defScope st_is_within) := ⟨rfl, rfl, rfl, by decide +kernel, rfl, by decide +kernel, by decide +kernel⟩
theorem ok_is_within {P : Program} {w : World} {K : PySem.W.Frag} {mg : Str → Option Value} {base : Heap} {f : Addr} {fd : FuncData} (F : L2.Fun K "is_within" "is_within" st_is_within f fd) (hm : mg "is_within" = some (.ref f)) (hb : Binds K fd ["thing", "low", "high"] []) (c_is_whole : Cal P w K mg base 1 "is_whole" 1 s_is_whole) : Cal P w K mg base 2 "is_within" 3 s_is_within := by
  refine calA (b := a_is_within) F sc_is_within rfl hm hb ?_ (fun _ _ _ _ h => h)
  intro cdv A outer s H E hr hgd
  exact ⟨_, ass_one (as_ret (ae_and (K := K) (ae_call (K := K) c_is_whole hr hgd (aa_cons (ae_v 0) (aa_nil))) (ae_one (ae_chain ao_le ao_le (ae_v 1) (ae_v 0) (ae_v 2)))))⟩

abbrev st_read_plain : Stmt := topS 37
theorem sc_read_plain : FnScope ["words", "at", "head", "one", "other"] ["words", "at"] (defScope st_read_plain) := ⟨rfl, rfl, rfl, by decide +kernel, rfl, by decide +kernel, by decide +kernel⟩
theorem ok_read_plain {P : Program} {w : World} {K : PySem.W.Frag} {mg : Str → Option Value} {base : Heap} {f : Addr} {fd : FuncData} (F : L2.Fun K "read_plain" "read_plain" st_read_plain f fd) (hm : mg "read_plain" = some (.ref f)) (hb : Binds K fd ["words", "at"] []) (c_read_number : Cal P w K mg base 1 "read_number" 1 s_read_number) (c_word_there : Cal P w K mg base 1 "word_there" 2 s_word_there) : Cal P w K mg base 2 "read_plain" 2 s_read_plain := by
  refine calA (b := a_read_plain) F sc_read_plain rfl hm hb ?_ (fun _ _ _ _ h => h)
  intro cdv A outer s H E hr hgd
  exact ⟨_, ass_cons (as_set 2 sc_read_plain.nd (ae_call (K := K) c_word_there hr hgd (aa_cons (ae_v 0) (aa_cons (ae_v 1) (aa_nil)))) rfl (.inl rfl))
      (ass_cons (as_if (at_cmp (ao_eq (K := K) hr.units) (ae_v 2) (ae_str))
      (ass_one (as_ret (ae_tup (aa_cons (ae_tup (aa_cons (ae_v 2) (aa_nil))) (aa_cons (ae_op (ao_add (K := K)) (ae_v 1) (ae_int)) (aa_nil))))))
      (ass_nil))
      (ass_cons (as_set 3 sc_read_plain.nd (ae_call (K := K) c_word_there hr hgd (aa_cons (ae_v 0) (aa_cons (ae_op (ao_add (K := K)) (ae_v 1) (ae_int)) (aa_nil)))) rfl (.inl rfl))
      (ass_cons (as_if (at_cmp ao_inL (ae_v 2) (ae_tup (aa_cons (ae_str) (aa_cons (ae_str) (aa_cons (ae_str) (aa_nil))))))
      (ass_one (as_ret (ae_tup (aa_cons (ae_tup (aa_cons (ae_v 2) (aa_cons (ae_v 3) (aa_nil)))) (aa_cons (ae_op (ao_add (K := K)) (ae_v 1) (ae_int)) (aa_nil))))))
      (ass_nil))
      (ass_cons (as_set 4 sc_read_plain.nd (ae_call (K := K) c_word_there hr hgd (aa_cons (ae_v 0) (aa_cons (ae_op (ao_add (K := K)) (ae_v 1) (ae_int)) (aa_nil)))) rfl (.inl rfl))
      (ass_cons (as_if (aw_t (aw_and (at_cmp (ao_eq (K := K) hr.units) (ae_v 2) (ae_str)) (aw_and1 (at_cmp (ao_eq (K := K) hr.units) (ae_v 4) (ae_str)))))
      (ass_one (as_ret (ae_tup (aa_cons (ae_tup (aa_cons (ae_v 2) (aa_cons (ae_call (K := K) c_read_number hr hgd (aa_cons (ae_v 3) (aa_nil))) (aa_cons (ae_non) (aa_nil))))) (aa_cons (ae_op (ao_add (K := K)) (ae_v 1) (ae_int)) (aa_nil))))))
      (ass_nil))
      (ass_cons (as_if (at_cmp ao_inL (ae_v 2) (ae_tup (aa_cons (ae_str) (aa_cons (ae_str) (aa_nil)))))
      (ass_one (as_ret (ae_tup (aa_cons (ae_tup (aa_cons (ae_v 2) (aa_cons (ae_call (K := K) c_read_number hr hgd (aa_cons (ae_v 3) (aa_nil))) (aa_cons (ae_call (K := K) c_read_number hr hgd (aa_cons (ae_v 4) (aa_nil))) (aa_nil))))) (aa_cons (ae_op (ao_add (K := K)) (ae_v 1) (ae_int)) (aa_nil))))))
      (ass_nil))
      (ass_cons (as_if (at_cmp (ao_eq (K := K) hr.units) (ae_v 2) (ae_str))
      (ass_one (as_ret (ae_tup (aa_cons (ae_tup (aa_cons (ae_v 2) (aa_cons (ae_v 3) (aa_cons (ae_call (K := K) c_read_number hr hgd (aa_cons (ae_v 4) (aa_nil))) (aa_nil))))) (aa_cons (ae_op (ao_add (K := K)) (ae_v 1) (ae_int)) (aa_nil))))))
      (ass_nil))
      (ass_one (as_no)))))))))⟩

abbrev st_law_take : Stmt := topS 44
theorem sc_law_take : FnScope ["_law_pen_here", "_law_most", "_law_k", "_law_script", "_law_cell", "_law_got"] ["_law_pen_here", "_law_most"] (defScope st_law_take) := ⟨rfl, rfl, rfl, by decide +kernel, rfl, by decide +kernel, by decide +kernel⟩
theorem ok_law_take {P : Program} {w : World} {K : PySem.W.Frag} {mg : Str → Option Value} {base : Heap} {f : Addr} {fd : FuncData} (F : L2.Fun K "_law_take" "_law_take" st_law_take f fd) (hm : mg "_law_take" = some (.ref f)) (hb : Binds K fd ["_law_pen_here", "_law_most"] []) (m_abs : mg "abs" = none) (m_len : mg "len" = none) (c_law_mixed : Cal P w K mg base 1 "_law_mixed" 2 s_law_mixed) : Cal P w K mg base 2 "_law_take" 2 s_law_take := by
  refine calA (b := a_law_take) F sc_law_take rfl hm hb ?_ (fun _ _ _ _ h => h)
  intro cdv A outer s H E hr hgd
  exact ⟨_, ass_cons (as_set 2 sc_law_take.nd (ae_getK (hu_of hr) (ae_v 0) (ae_str)) rfl (.inl rfl))
      (ass_cons (as_set 3 sc_law_take.nd (ae_getK (hu_of hr) (ae_v 0) (ae_str)) rfl (.inl rfl))
      (ass_cons (as_if (at_cmp (ao_eq (K := K) hr.units) (ae_getK (hu_of hr) (ae_v 0) (ae_str)) (ae_int))
      (ass_cons (as_putK (hu_of hr) (ae_v 0) (ae_str) (ae_op (ao_add (K := K)) (ae_v 2) (ae_int)))
      (ass_cons (as_set 4 sc_law_take.nd (ae_int) rfl (.inl rfl))
      (ass_cons (as_if (at_cmp ao_gt (ae_callB (ac_len (K := K)) m_len (by decide +kernel) (aa_cons (ae_v 3) (aa_nil))) (ae_int))
      (ass_one (as_set 4 sc_law_take.nd (ae_ix (K := K) (ae_v 3) (ae_op ao_mod (ae_v 2) (ae_callB (ac_len (K := K)) m_len (by decide +kernel) (aa_cons (ae_v 3) (aa_nil))))) rfl (.inl rfl)))
      (ass_nil))
      (ass_cons (as_if (aw_t (aw_or (at_cmp ao_ge (ae_v 2) (ae_callB (ac_len (K := K)) m_len (by decide +kernel) (aa_cons (ae_v 3) (aa_nil)))) (aw_or1 (at_cmp ao_lt (ae_callB ac_abs m_abs (by decide +kernel) (aa_cons (ae_v 4) (aa_nil))) (ae_op ao_pow (ae_int) (ae_int))))))
      (ass_one (as_ret (ae_op ao_mod (ae_call (K := K) c_law_mixed hr hgd (aa_cons (ae_v 4) (aa_cons (ae_v 2) (aa_nil)))) (ae_v 1))))
      (ass_nil))
      (ass_one (as_putK (hu_of hr) (ae_v 0) (ae_str) (ae_callB ac_abs m_abs (by decide +kernel) (aa_cons (ae_v 4) (aa_nil)))))))))
      (ass_nil))
      (ass_cons (as_set 5 sc_law_take.nd (ae_op ao_mod (ae_getK (hu_of hr) (ae_v 0) (ae_str)) (ae_v 1)) rfl (.inl rfl))
      (ass_cons (as_putK (hu_of hr) (ae_v 0) (ae_str) (ae_op ao_div (ae_getK (hu_of hr) (ae_v 0) (ae_str)) (ae_v 1)))
      (ass_one (as_ret (ae_v 5)))))))⟩

abbrev st_is_piece : Stmt := topS 22
theorem sc_is_piece : FnScope ["tongue", "thing", "most"] ["tongue", "thing", "most"] (defScope st_is_piece) := ⟨rfl, rfl, rfl, by decide +kernel, rfl, by decide +kernel, by decide +kernel⟩
theorem ok_is_piece {P : Program} {w : World} {K : PySem.W.Frag} {mg : Str → Option Value} {base : Heap} {f : Addr} {fd : FuncData} (F : L2.Fun K "is_piece" "is_piece" st_is_piece f fd) (hm : mg "is_piece" = some (.ref f)) (hb : Binds K fd ["tongue", "thing", "most"] []) (m_isinstance : mg "isinstance" = none) (m_len : mg "len" = none) (m_str : mg "str" = none) (c_has_signs : Cal P w K mg base 2 "has_signs" 2 s_has_signs) : Cal P w K mg base 3 "is_piece" 3 s_is_piece := by
  refine calA (b := a_is_piece) F sc_is_piece rfl hm hb ?_ (fun _ _ _ _ h => h)
  intro cdv A outer s H E hr hgd
  exact ⟨_, ass_one (as_ret (ae_and (K := K) (ae_isi (K := K) (ae_v 1) m_isinstance m_str (by decide +kernel)) (ae_and (K := K) (ae_chain ao_le ao_le (ae_int) (ae_callB (ac_len (K := K)) m_len (by decide +kernel) (aa_cons (ae_v 1) (aa_nil))) (ae_v 2)) (ae_one (ae_call (K := K) c_has_signs hr hgd (aa_cons (ae_v 0) (aa_cons (ae_v 1) (aa_nil))))))))⟩

abbrev st_read_part : Stmt := topS 38
theorem sc_read_part : FnScope ["words", "at", "deep", "head", "parts", "k", "part"] ["words", "at", "deep"] (defScope st_read_part) := ⟨rfl, rfl, rfl, by decide +kernel, rfl, by decide +kernel, by decide +kernel⟩
theorem ok_read_part {P : Program} {w : World} {K : PySem.W.Frag} {mg : Str → Option Value} {base : Heap} {f : Addr} {fd : FuncData} (F : L2.Fun K "read_part" "read_part" st_read_part f fd) (hm : mg "read_part" = some (.ref f)) (hb : Binds K fd ["words", "at", "deep"] []) (m_range : mg "range" = none) (m_tuple : mg "tuple" = none) (g_DEEPEST : ∃ u, mg "DEEPEST" = some u ∧ RelV (.int 4) u) {d_PARTS : Addr} (g_PARTS : KTab K w.params d_PARTS tab_PARTS ∧ mg "PARTS" = some (.ref d_PARTS)) (c_word_there : Cal P w K mg base 1 "word_there" 2 s_word_there) (c_read_plain : Cal P w K mg base 2 "read_plain" 2 s_read_plain) : ∀ d, Cal P w K mg base (3 + d) "read_part" 3 (s_read_part d)
  | 0 => by
    refine calA (b := aNoS) F sc_read_part rfl hm hb ?_ (fun _ _ _ _ h => h.elim)
    intro cdv A outer s H E hr hgd
    exact ⟨_, ass_no⟩
  | d + 1 => by
    have c_read_part := ok_read_part (P := P) (w := w) (base := base) F hm hb m_range m_tuple g_DEEPEST g_PARTS c_word_there c_read_plain d
    refine calA (b := a_read_part (s_read_part d)) F sc_read_part rfl hm hb ?_ (fun _ _ _ _ h => h)
    intro cdv A outer s H E hr hgd
    exact ⟨_, ass_cons (as_set 3 sc_read_part.nd (ae_call (K := K) (hk := by first | exact Nat.le_refl _ | exact Nat.le_trans (by decide) (Nat.le_add_right 3 d)) c_word_there hr hgd (aa_cons (ae_v 0) (aa_cons (ae_v 1) (aa_nil)))) rfl (.inl rfl))
      (ass_cons (as_if (at_notInTab (ae_v 3) g_PARTS.1 g_PARTS.2)
      (ass_one (as_ret (ae_call (K := K) (hk := by first | exact Nat.le_refl _ | exact Nat.le_trans (by decide) (Nat.le_add_right 3 d)) c_read_plain hr hgd (aa_cons (ae_v 0) (aa_cons (ae_v 1) (aa_nil))))))
      (ass_nil))
      (ass_cons (as_if (at_cmp (ao_eq (K := K) hr.units) (ae_v 2) (ae_gint g_DEEPEST))
      (ass_one (as_no))
      (ass_nil))
      (ass_cons (as_set 4 sc_read_part.nd (ae_lstM (aa_nil)) rfl (.inl rfl))
      (ass_cons (as_set 1 sc_read_part.nd (ae_op (ao_add (K := K)) (ae_v 1) (ae_int)) rfl (.inl rfl))
      (ass_cons (as_for (ai_range1 m_range (aa_cons (ae_ixTab (ae_v 3) g_PARTS.1 g_PARTS.2) (aa_nil))) (ag_name 5 (vs := [5]) sc_read_part.nd rfl (.inl rfl))
      (ass_cons (as_asg (ae_call (K := K) (hk := by first | exact Nat.le_refl _ | exact Nat.le_trans (by decide) (Nat.le_add_right 3 d)) c_read_part hr hgd (aa_cons (ae_v 0) (aa_cons (ae_v 1) (aa_cons (ae_op (ao_add (K := K)) (ae_v 2) (ae_int)) (aa_nil))))) (ag_tup (K := K) (ags_cons (ag_name 6 (vs := [6, 1]) sc_read_part.nd rfl (.inl rfl)) (ags_cons (ag_name 1 (vs := [6, 1]) sc_read_part.nd rfl (.inl rfl)) (ags_nil)))))
      (ass_one (as_expr (ae_meth (K := K) PySem.F.plainAttrs_list PySem.F.slot_list_append PySem.F.type_list_append am_append (ae_v 4) (aa_cons (ae_v 6) (aa_nil)))))))
      (ass_frz 4 (ass_one (as_ret (ae_tup (aa_cons (ae_op (ao_add (K := K)) (ae_tup (aa_cons (ae_v 3) (aa_nil))) (ae_callT (ac_tuple (K := K)) m_tuple (by decide +kernel) (aa_cons (ae_v 4) (aa_nil)))) (aa_cons (ae_v 1) (aa_nil))))))))))))⟩

abbrev st_law_tongue : Stmt := topS 45
theorem sc_law_tongue : FnScope ["_law_pen_here", "_law_many", "_law_signs", "_law_left", "_law_kinds", "_law_size", "_law_k"] ["_law_pen_here", "_law_many"] (defScope st_law_tongue) := ⟨rfl, rfl, rfl, by decide +kernel, rfl, by decide +kernel, by decide +kernel⟩
theorem ok_law_tongue {P : Program} {w : World} {K : PySem.W.Frag} {mg : Str → Option Value} {base : Heap} {f : Addr} {fd : FuncData} (F : L2.Fun K "_law_tongue" "_law_tongue" st_law_tongue f fd) (hm : mg "_law_tongue" = some (.ref f)) (hb : Binds K fd ["_law_pen_here", "_law_many"] []) (m_len : mg "len" = none) (m_list : mg "list" = none) (m_max : mg "max" = none) (m_min : mg "min" = none) (m_range : mg "range" = none) (m_tuple : mg "tuple" = none) (c_law_take : Cal P w K mg base 2 "_law_take" 2 s_law_take) : Cal P w K mg base 3 "_law_tongue" 2 s_law_tongue := by
  refine calA (b := a_law_tongue) F sc_law_tongue rfl hm hb ?_ (fun _ _ _ _ h => h)
  intro cdv A outer s H E hr hgd
  exact ⟨_, ass_cons (as_set 2 sc_law_tongue.nd (ae_callT ac_listSM m_list (by decide +kernel) (aa_cons (ae_str) (aa_nil))) rfl (.inr rfl))
      (ass_cons (as_set 2 sc_law_tongue.nd (ae_op ao_addM (ae_v 2) (ae_callT ac_listS m_list (by decide +kernel) (aa_cons (ae_str) (aa_nil)))) rfl (.inr rfl))
      (ass_cons (as_setLc 3 [("_law_k", 6)] sc_law_tongue.nd (ai_range1 m_range (aa_cons (ae_v 1) (aa_nil))) (sw_true rfl rfl rfl (by decide +kernel)) (blkOk_by (own := [("_law_k", 6)]) (N := ["_law_pen_here", "_law_many", "_law_signs", "_law_left", "_law_kinds", "_law_size", "_law_k"]) (sc := defScope st_law_tongue) (by decide +kernel)) (fun _ _ _ _ _ => ag_name 6 (vs := [6]) sc_law_tongue.nd rfl (.inl rfl)) (fun _ _ _ _ _ => ats_nil) (fun _ _ _ _ _ => ae_meth (K := K) PySem.F.plainAttrs_list PySem.F.slot_list_pop PySem.F.type_list_pop am_popAt (ae_v 2) (aa_cons (ae_call (K := K) c_law_take hr hgd (aa_cons (ae_v 0) (aa_cons (ae_callB (ac_len (K := K)) m_len (by decide +kernel) (aa_cons (ae_v 2) (aa_nil))) (aa_nil)))) (aa_nil))))
      (ass_cons (as_set 4 sc_law_tongue.nd (ae_lstM (aa_nil)) rfl (.inl rfl))
      (ass_cons (as_while (at_cmp (ao_neNil (K := K) hr.units) (ae_v 3) (ae_lst (aa_nil)))
      (ass_cons (as_set 5 sc_law_tongue.nd (ae_op (ao_add (K := K)) (ae_int) (ae_call (K := K) c_law_take hr hgd (aa_cons (ae_v 0) (aa_cons (ae_callB ac_min2 m_min (by decide +kernel) (aa_cons (ae_int) (aa_cons (ae_callB (ac_len (K := K)) m_len (by decide +kernel) (aa_cons (ae_v 3) (aa_nil))) (aa_nil)))) (aa_nil))))) rfl (.inl rfl))
      (ass_cons (as_set 5 sc_law_tongue.nd (ae_callB ac_max2 m_max (by decide +kernel) (aa_cons (ae_v 5) (aa_cons (ae_op ao_sub (ae_callB (ac_len (K := K)) m_len (by decide +kernel) (aa_cons (ae_v 3) (aa_nil))) (ae_op ao_mul (ae_int) (ae_op ao_sub (ae_int) (ae_callB (ac_len (K := K)) m_len (by decide +kernel) (aa_cons (ae_v 4) (aa_nil)))))) (aa_nil)))) rfl (.inl rfl))
      (ass_cons (as_expr (ae_meth (K := K) PySem.F.plainAttrs_list PySem.F.slot_list_append PySem.F.type_list_append am_append (ae_v 4) (aa_cons (ae_meth (K := K) PySem.F.plainAttrs_str PySem.F.slot_str_join PySem.F.type_str_join (am_join (K := K)) (ae_str) (aa_cons (ae_cut (K := K) (ae_v 3) ao_none (ao_some (ae_v 5))) (aa_nil))) (aa_nil))))
      (ass_one (as_set 3 sc_law_tongue.nd (ae_cut (K := K) (ae_v 3) (ao_some (ae_v 5)) ao_none) rfl (.inl rfl)))))))
      (ass_frz 4 (ass_one (as_ret (ae_callT (ac_tuple (K := K)) m_tuple (by decide +kernel) (aa_cons (ae_v 4) (aa_nil))))))))))⟩

abbrev st_law_piece : Stmt := topS 47
theorem sc_law_piece : FnScope ["_law_pen_here", "_law_letters", "_law_most", "_law_k"] ["_law_pen_here", "_law_letters", "_law_most"] (defScope st_law_piece) := ⟨rfl, rfl, rfl, by decide +kernel, rfl, by decide +kernel, by decide +kernel⟩
theorem ok_law_piece {P : Program} {w : World} {K : PySem.W.Frag} {mg : Str → Option Value} {base : Heap} {f : Addr} {fd : FuncData} (F : L2.Fun K "_law_piece" "_law_piece" st_law_piece f fd) (hm : mg "_law_piece" = some (.ref f)) (hb : Binds K fd ["_law_pen_here", "_law_letters", "_law_most"] []) (m_len : mg "len" = none) (m_range : mg "range" = none) (c_law_take : Cal P w K mg base 2 "_law_take" 2 s_law_take) : Cal P w K mg base 3 "_law_piece" 3 s_law_piece := by
  refine calA (b := a_law_piece) F sc_law_piece rfl hm hb ?_ (fun _ _ _ _ h => h)
  intro cdv A outer s H E hr hgd
  exact ⟨_, ass_one (as_ret (ae_meth (K := K) PySem.F.plainAttrs_str PySem.F.slot_str_join PySem.F.type_str_join (am_join (K := K)) (ae_str) (aa_cons (ae_lc [("_law_k", 3)] sc_law_piece.nd (ai_range1 m_range (aa_cons (ae_op (ao_add (K := K)) (ae_int) (ae_call (K := K) c_law_take hr hgd (aa_cons (ae_v 0) (aa_cons (ae_v 2) (aa_nil))))) (aa_nil))) (blkOk_by (own := [("_law_k", 3)]) (N := ["_law_pen_here", "_law_letters", "_law_most", "_law_k"]) (sc := defScope st_law_piece) (by decide +kernel)) (fun _ _ _ _ _ => ag_name 3 (vs := [3]) sc_law_piece.nd rfl (.inl rfl)) (fun _ _ _ _ _ => ats_nil) (fun _ _ _ _ _ => ae_ix (K := K) (ae_v 1) (ae_call (K := K) c_law_take hr hgd (aa_cons (ae_v 0) (aa_cons (ae_callB (ac_len (K := K)) m_len (by decide +kernel) (aa_cons (ae_v 1) (aa_nil))) (aa_nil)))))) (aa_nil))))⟩

abbrev st_fits : Stmt := topS 23
theorem sc_fits : FnScope ["tongue", "thing", "word"] ["tongue", "thing"] (defScope st_fits) := ⟨rfl, rfl, rfl, by decide +kernel, rfl, by decide +kernel, by decide +kernel⟩
theorem ok_fits {P : Program} {w : World} {K : PySem.W.Frag} {mg : Str → Option Value} {base : Heap} {f : Addr} {fd : FuncData} (F : L2.Fun K "fits" "fits" st_fits f fd) (hm : mg "fits" = some (.ref f)) (hb : Binds K fd ["tongue", "thing"] []) (m_len : mg "len" = none) (m_set : mg "set" = none) (g_MOST_LOW : ∃ u, mg "MOST_LOW" = some u ∧ RelV (.int 30) u) (g_MOST_PIECE : ∃ u, mg "MOST_PIECE" = some u ∧ RelV (.int 6) u) (c_is_within : Cal P w K mg base 2 "is_within" 3 s_is_within) (c_is_piece : Cal P w K mg base 3 "is_piece" 3 s_is_piece) : Cal P w K mg base 4 "fits" 2 s_fits := by
  refine calA (b := a_fits) F sc_fits rfl hm hb ?_ (fun _ _ _ _ h => h)
  intro cdv A outer s H E hr hgd
  exact ⟨_, ass_cons (as_set 2 sc_fits.nd (ae_ix (K := K) (ae_v 1) (ae_int)) rfl (.inl rfl))
      (ass_cons (as_if (at_cmp (ao_eq (K := K) hr.units) (ae_v 2) (ae_str))
      (ass_cons (as_if (at_not (at_tru (K := K) (ae_call (K := K) c_is_within hr hgd (aa_cons (ae_ix (K := K) (ae_v 1) (ae_int)) (aa_cons (ae_int) (aa_cons (ae_gint g_MOST_LOW) (aa_nil)))))))
      (ass_one (as_ret (ae_bl)))
      (ass_nil))
      (ass_one (as_ret (ae_or (K := K) (ae_cmp ao_is (ae_ix (K := K) (ae_v 1) (ae_int)) (ae_non)) (ae_one (ae_call (K := K) c_is_within hr hgd (aa_cons (ae_ix (K := K) (ae_v 1) (ae_int)) (aa_cons (ae_ix (K := K) (ae_v 1) (ae_int)) (aa_cons (ae_gint g_MOST_LOW) (aa_nil))))))))))
      (ass_nil))
      (ass_cons (as_if (at_cmp (ao_eq (K := K) hr.units) (ae_v 2) (ae_str))
      (ass_one (as_ret (ae_and (K := K) (ae_call (K := K) c_is_within hr hgd (aa_cons (ae_ix (K := K) (ae_v 1) (ae_int)) (aa_cons (ae_int) (aa_cons (ae_op ao_sub (ae_callB (ac_len (K := K)) m_len (by decide +kernel) (aa_cons (ae_v 0) (aa_nil))) (ae_int)) (aa_nil))))) (ae_one (ae_call (K := K) c_is_within hr hgd (aa_cons (ae_ix (K := K) (ae_v 1) (ae_int)) (aa_cons (ae_int) (aa_cons (ae_int) (aa_nil)))))))))
      (ass_nil))
      (ass_cons (as_if (at_cmp (ao_eq (K := K) hr.units) (ae_v 2) (ae_str))
      (ass_cons (as_if (aw_t (aw_or (at_not (at_tru (K := K) (ae_call (K := K) c_is_piece hr hgd (aa_cons (ae_v 0) (aa_cons (ae_ix (K := K) (ae_v 1) (ae_int)) (aa_cons (ae_int) (aa_nil))))))) (aw_or1 (at_not (at_tru (K := K) (ae_call (K := K) c_is_within hr hgd (aa_cons (ae_ix (K := K) (ae_v 1) (ae_int)) (aa_cons (ae_int) (aa_cons (ae_int) (aa_nil))))))))))
      (ass_one (as_ret (ae_bl)))
      (ass_nil))
      (ass_one (as_ret (ae_cmp (ao_eq (K := K) hr.units) (ae_lenSetT m_len m_set (ae_ix (K := K) (ae_v 1) (ae_int))) (ae_callB (ac_len (K := K)) m_len (by decide +kernel) (aa_cons (ae_ix (K := K) (ae_v 1) (ae_int)) (aa_nil)))))))
      (ass_nil))
      (ass_cons (as_if (at_cmp ao_inL (ae_v 2) (ae_tup (aa_cons (ae_str) (aa_cons (ae_str) (aa_cons (ae_str) (aa_nil))))))
      (ass_one (as_ret (ae_call (K := K) c_is_piece hr hgd (aa_cons (ae_v 0) (aa_cons (ae_ix (K := K) (ae_v 1) (ae_int)) (aa_cons (ae_gint g_MOST_PIECE) (aa_nil)))))))
      (ass_nil))
      (ass_one (as_ret (ae_bl)))))))⟩

abbrev st_law_any_tongue : Stmt := topS 46
theorem sc_law_any_tongue : FnScope ["_law_pen_here", "_law_some"] ["_law_pen_here"] (defScope st_law_any_tongue) := ⟨rfl, rfl, rfl, by decide +kernel, rfl, by decide +kernel, by decide +kernel⟩
theorem ok_law_any_tongue {P : Program} {w : World} {K : PySem.W.Frag} {mg : Str → Option Value} {base : Heap} {f : Addr} {fd : FuncData} (F : L2.Fun K "_law_any_tongue" "_law_any_tongue" st_law_any_tongue f fd) (hm : mg "_law_any_tongue" = some (.ref f)) (hb : Binds K fd ["_law_pen_here"] []) (c_law_take : Cal P w K mg base 2 "_law_take" 2 s_law_take) (c_law_tongue : Cal P w K mg base 3 "_law_tongue" 2 s_law_tongue) : Cal P w K mg base 4 "_law_any_tongue" 1 s_law_any_tongue := by
  refine calA (b := a_law_any_tongue) F sc_law_any_tongue rfl hm hb ?_ (fun _ _ _ _ h => h)
  intro cdv A outer s H E hr hgd
  exact ⟨_, ass_cons (as_set 1 sc_law_any_tongue.nd (ae_lstM (aa_cons (ae_tup (aa_cons (ae_str) (aa_nil))) (aa_cons (ae_tup (aa_cons (ae_str) (aa_cons (ae_str) (aa_cons (ae_str) (aa_nil))))) (aa_cons (ae_tup (aa_cons (ae_str) (aa_cons (ae_str) (aa_nil)))) (aa_cons (ae_tup (aa_cons (ae_str) (aa_cons (ae_str) (aa_cons (ae_str) (aa_nil))))) (aa_cons (ae_tup (aa_cons (ae_str) (aa_cons (ae_str) (aa_cons (ae_str) (aa_cons (ae_str) (aa_nil)))))) (aa_cons (ae_tup (aa_cons (ae_str) (aa_nil))) (aa_nil)))))))) rfl (.inl rfl))
      (ass_cons (as_expr (ae_meth (K := K) PySem.F.plainAttrs_list PySem.F.slot_list_append PySem.F.type_list_append am_append (ae_v 1) (aa_cons (ae_tup (aa_cons (ae_str) (aa_cons (ae_str) (aa_cons (ae_str) (aa_nil))))) (aa_nil))))
      (ass_frz 1 (ass_cons (as_if (at_cmp (ao_eq (K := K) hr.units) (ae_call (K := K) c_law_take hr hgd (aa_cons (ae_v 0) (aa_cons (ae_int) (aa_nil)))) (ae_int))
      (ass_one (as_ret (ae_ix (K := K) (ae_v 1) (ae_call (K := K) c_law_take hr hgd (aa_cons (ae_v 0) (aa_cons (ae_int) (aa_nil)))))))
      (ass_nil))
      (ass_one (as_ret (ae_call (K := K) c_law_tongue hr hgd (aa_cons (ae_v 0) (aa_cons (ae_ix (K := K) (ae_lst (aa_cons (ae_int) (aa_cons (ae_int) (aa_cons (ae_int) (aa_cons (ae_int) (aa_cons (ae_int) (aa_cons (ae_int) (aa_cons (ae_int) (aa_cons (ae_op (ao_add (K := K)) (ae_int) (ae_call (K := K) c_law_take hr hgd (aa_cons (ae_v 0) (aa_cons (ae_int) (aa_nil))))) (aa_nil)))))))))) (ae_call (K := K) c_law_take hr hgd (aa_cons (ae_v 0) (aa_cons (ae_int) (aa_nil))))) (aa_nil)))))))))⟩

abbrev st_law_plain : Stmt := topS 48
theorem sc_law_plain : FnScope ["_law_pen_here", "_law_tongue_here", "_law_letters", "_law_way", "_law_low", "_law_left", "_law_signs", "_law_k"] ["_law_pen_here", "_law_tongue_here"] (defScope st_law_plain) := ⟨rfl, rfl, rfl, by decide +kernel, rfl, by decide +kernel, by decide +kernel⟩
theorem ok_law_plain {P : Program} {w : World} {K : PySem.W.Frag} {mg : Str → Option Value} {base : Heap} {f : Addr} {fd : FuncData} (F : L2.Fun K "_law_plain" "_law_plain" st_law_plain f fd) (hm : mg "_law_plain" = some (.ref f)) (hb : Binds K fd ["_law_pen_here", "_law_tongue_here"] []) (m_int : mg "int" = none) (m_len : mg "len" = none) (m_list : mg "list" = none) (m_min : mg "min" = none) (m_range : mg "range" = none) (c_law_take : Cal P w K mg base 2 "_law_take" 2 s_law_take) (c_law_piece : Cal P w K mg base 3 "_law_piece" 3 s_law_piece) : Cal P w K mg base 4 "_law_plain" 2 s_law_plain := by
  refine calA (b := a_law_plain) F sc_law_plain rfl hm hb ?_ (fun _ _ _ _ h => h)
  intro cdv A outer s H E hr hgd
  exact ⟨_, ass_cons (as_set 2 sc_law_plain.nd (ae_meth (K := K) PySem.F.plainAttrs_str PySem.F.slot_str_join PySem.F.type_str_join (am_join (K := K)) (ae_str) (aa_cons (ae_v 1) (aa_nil))) rfl (.inl rfl))
      (ass_cons (as_set 3 sc_law_plain.nd (ae_call (K := K) c_law_take hr hgd (aa_cons (ae_v 0) (aa_cons (ae_int) (aa_nil)))) rfl (.inl rfl))
      (ass_cons (as_if (at_cmp (ao_eq (K := K) hr.units) (ae_v 3) (ae_int))
      (ass_cons (as_set 4 sc_law_plain.nd (ae_call (K := K) c_law_take hr hgd (aa_cons (ae_v 0) (aa_cons (ae_int) (aa_nil)))) rfl (.inl rfl))
      (ass_one (as_ret (ae_tup (aa_cons (ae_str) (aa_cons (ae_v 4) (aa_cons (ae_ix (K := K) (ae_lst (aa_cons (ae_op (ao_add (K := K)) (ae_v 4) (ae_call (K := K) c_law_take hr hgd (aa_cons (ae_v 0) (aa_cons (ae_op ao_sub (ae_int) (ae_v 4)) (aa_nil))))) (aa_cons (ae_non) (aa_nil)))) (ae_callT ac_int m_int (by decide +kernel) (aa_cons (ae_cmp (ao_eq (K := K) hr.units) (ae_call (K := K) c_law_take hr hgd (aa_cons (ae_v 0) (aa_cons (ae_int) (aa_nil)))) (ae_int)) (aa_nil)))) (aa_nil))))))))
      (ass_nil))
      (ass_cons (as_if (at_cmp (ao_eq (K := K) hr.units) (ae_v 3) (ae_int))
      (ass_one (as_ret (ae_tup (aa_cons (ae_str) (aa_cons (ae_call (K := K) c_law_take hr hgd (aa_cons (ae_v 0) (aa_cons (ae_callB (ac_len (K := K)) m_len (by decide +kernel) (aa_cons (ae_v 1) (aa_nil))) (aa_nil)))) (aa_cons (ae_call (K := K) c_law_take hr hgd (aa_cons (ae_v 0) (aa_cons (ae_int) (aa_nil)))) (aa_nil)))))))
      (ass_nil))
      (ass_cons (as_if (at_cmp (ao_eq (K := K) hr.units) (ae_v 3) (ae_int))
      (ass_cons (as_set 5 sc_law_plain.nd (ae_callT ac_listSM m_list (by decide +kernel) (aa_cons (ae_v 2) (aa_nil))) rfl (.inr rfl))
      (ass_cons (as_setLc 6 [("_law_k", 7)] sc_law_plain.nd (ai_range1 m_range (aa_cons (ae_op (ao_add (K := K)) (ae_int) (ae_call (K := K) c_law_take hr hgd (aa_cons (ae_v 0) (aa_cons (ae_callB ac_min2 m_min (by decide +kernel) (aa_cons (ae_int) (aa_cons (ae_callB (ac_len (K := K)) m_len (by decide +kernel) (aa_cons (ae_v 2) (aa_nil))) (aa_nil)))) (aa_nil))))) (aa_nil))) (sw_true rfl rfl rfl (by decide +kernel)) (blkOk_by (own := [("_law_k", 7)]) (N := ["_law_pen_here", "_law_tongue_here", "_law_letters", "_law_way", "_law_low", "_law_left", "_law_signs", "_law_k"]) (sc := defScope st_law_plain) (by decide +kernel)) (fun _ _ _ _ _ => ag_name 7 (vs := [7]) sc_law_plain.nd rfl (.inl rfl)) (fun _ _ _ _ _ => ats_nil) (fun _ _ _ _ _ => ae_meth (K := K) PySem.F.plainAttrs_list PySem.F.slot_list_pop PySem.F.type_list_pop am_popAt (ae_v 5) (aa_cons (ae_call (K := K) c_law_take hr hgd (aa_cons (ae_v 0) (aa_cons (ae_callB (ac_len (K := K)) m_len (by decide +kernel) (aa_cons (ae_v 5) (aa_nil))) (aa_nil)))) (aa_nil))))
      (ass_one (as_ret (ae_tup (aa_cons (ae_str) (aa_cons (ae_meth (K := K) PySem.F.plainAttrs_str PySem.F.slot_str_join PySem.F.type_str_join (am_join (K := K)) (ae_str) (aa_cons (ae_v 6) (aa_nil))) (aa_cons (ae_call (K := K) c_law_take hr hgd (aa_cons (ae_v 0) (aa_cons (ae_int) (aa_nil)))) (aa_nil)))))))))
      (ass_nil))
      (ass_cons (as_if (at_cmp (ao_eq (K := K) hr.units) (ae_v 3) (ae_int))
      (ass_one (as_ret (ae_tup (aa_cons (ae_str) (aa_nil)))))
      (ass_nil))
      (ass_one (as_ret (ae_tup (aa_cons (ae_ix (K := K) (ae_lst (aa_cons (ae_str) (aa_cons (ae_str) (aa_cons (ae_str) (aa_nil))))) (ae_op ao_sub (ae_v 3) (ae_int))) (aa_cons (ae_call (K := K) c_law_piece hr hgd (aa_cons (ae_v 0) (aa_cons (ae_v 2) (aa_cons (ae_int) (aa_nil))))) (aa_nil)))))))))))⟩

abbrev st_is_formed : Stmt := topS 24
theorem sc_is_formed : FnScope ["tongue", "thing"] ["tongue", "thing"] (defScope st_is_formed) := ⟨rfl, rfl, rfl, by decide +kernel, rfl, by decide +kernel, by decide +kernel⟩
theorem ok_is_formed {P : Program} {w : World} {K : PySem.W.Frag} {mg : Str → Option Value} {base : Heap} {f : Addr} {fd : FuncData} (F : L2.Fun K "is_formed" "is_formed" st_is_formed f fd) (hm : mg "is_formed" = some (.ref f)) (hb : Binds K fd ["tongue", "thing"] []) (m_isinstance : mg "isinstance" = none) (m_len : mg "len" = none) (m_str : mg "str" = none) (m_tuple : mg "tuple" = none) {d_LENGTHS : Addr} (g_LENGTHS : KTab K w.params d_LENGTHS tab_LENGTHS ∧ mg "LENGTHS" = some (.ref d_LENGTHS)) (c_fits : Cal P w K mg base 4 "fits" 2 s_fits) : Cal P w K mg base 5 "is_formed" 2 s_is_formed := by
  refine calA (b := a_is_formed) F sc_is_formed rfl hm hb ?_ (fun _ _ _ _ h => h)
  intro cdv A outer s H E hr hgd
  exact ⟨_, ass_cons (as_if (aw_t (aw_or (at_not (at_tru (K := K) (ae_isi (K := K) (ae_v 1) m_isinstance m_tuple (by decide +kernel)))) (aw_or (at_cmp (ao_eq (K := K) hr.units) (ae_callB (ac_len (K := K)) m_len (by decide +kernel) (aa_cons (ae_v 1) (aa_nil))) (ae_int)) (aw_or1 (at_not (at_tru (K := K) (ae_isi (K := K) (ae_ix (K := K) (ae_v 1) (ae_int)) m_isinstance m_str (by decide +kernel))))))))
      (ass_one (as_ret (ae_bl)))
      (ass_nil))
      (ass_one (as_ret (ae_and (K := K) (ae_inTab (ae_ix (K := K) (ae_v 1) (ae_int)) g_LENGTHS.1 g_LENGTHS.2) (ae_and (K := K) (ae_cmp (ao_eq (K := K) hr.units) (ae_callB (ac_len (K := K)) m_len (by decide +kernel) (aa_cons (ae_v 1) (aa_nil))) (ae_ixTab (ae_ix (K := K) (ae_v 1) (ae_int)) g_LENGTHS.1 g_LENGTHS.2)) (ae_one (ae_call (K := K) c_fits hr hgd (aa_cons (ae_v 0) (aa_cons (ae_v 1) (aa_nil)))))))))⟩

abbrev st_law_sentence : Stmt := topS 49
theorem sc_law_sentence : FnScope ["_law_pen_here", "_law_tongue_here", "_law_deep", "_law_room", "_law_way", "_law_one"] ["_law_pen_here", "_law_tongue_here", "_law_deep", "_law_room"] (defScope st_law_sentence) := ⟨rfl, rfl, rfl, by decide +kernel, rfl, by decide +kernel, by decide +kernel⟩
theorem ok_law_sentence {P : Program} {w : World} {K : PySem.W.Frag} {mg : Str → Option Value} {base : Heap} {f : Addr} {fd : FuncData} (F : L2.Fun K "_law_sentence" "_law_sentence" st_law_sentence f fd) (hm : mg "_law_sentence" = some (.ref f)) (hb : Binds K fd ["_law_pen_here", "_law_tongue_here", "_law_deep", "_law_room"] []) (c_law_take : Cal P w K mg base 2 "_law_take" 2 s_law_take) (c_law_plain : Cal P w K mg base 4 "_law_plain" 2 s_law_plain) : ∀ d, Cal P w K mg base (5 + d) "_law_sentence" 4 (s_law_sentence d)
  | 0 => by
    refine calA (b := aNoS) F sc_law_sentence rfl hm hb ?_ (fun _ _ _ _ h => h.elim)
    intro cdv A outer s H E hr hgd
    exact ⟨_, ass_no⟩
  | d + 1 => by
    have c_law_sentence := ok_law_sentence (P := P) (w := w) (base := base) F hm hb c_law_take c_law_plain d
    refine calA (b := a_law_sentence (s_law_sentence d)) F sc_law_sentence rfl hm hb ?_ (fun _ _ _ _ h => h)
    intro cdv A outer s H E hr hgd
    exact ⟨_, ass_cons (as_set 4 sc_law_sentence.nd (ae_call (K := K) (hk := by first | exact Nat.le_refl _ | exact Nat.le_trans (by decide) (Nat.le_add_right 5 d)) c_law_take hr hgd (aa_cons (ae_v 0) (aa_cons (ae_int) (aa_nil)))) rfl (.inl rfl))
      (ass_cons (as_if (aw_t (aw_or (at_cmp (ao_eq (K := K) hr.units) (ae_v 2) (ae_int)) (aw_or (at_cmp ao_gt (ae_v 4) (ae_int)) (aw_or1 (at_cmp (ao_eq (K := K) hr.units) (ae_ix (K := K) (ae_v 3) (ae_int)) (ae_int))))))
      (ass_one (as_ret (ae_call (K := K) (hk := by first | exact Nat.le_refl _ | exact Nat.le_trans (by decide) (Nat.le_add_right 5 d)) c_law_plain hr hgd (aa_cons (ae_v 0) (aa_cons (ae_v 1) (aa_nil))))))
      (ass_nil))
      (ass_cons (as_if (aw_t (aw_or (at_cmp (ao_eq (K := K) hr.units) (ae_v 4) (ae_int)) (aw_or1 (at_cmp (ao_eq (K := K) hr.units) (ae_ix (K := K) (ae_v 3) (ae_int)) (ae_int)))))
      (ass_cons (as_setL (ae_op ao_sub (ae_ix (K := K) (ae_v 3) (ae_int)) (ae_int)) (ae_v 3) (ae_int))
      (ass_one (as_ret (ae_tup (aa_cons (ae_str) (aa_cons (ae_call (K := K) (hk := by first | exact Nat.le_refl _ | exact Nat.le_trans (by decide) (Nat.le_add_right 5 d)) c_law_sentence hr hgd (aa_cons (ae_v 0) (aa_cons (ae_v 1) (aa_cons (ae_op (ao_add (K := K)) (ae_v 2) (ae_int)) (aa_cons (ae_v 3) (aa_nil)))))) (aa_nil)))))))
      (ass_nil))
      (ass_cons (as_setL (ae_op ao_sub (ae_ix (K := K) (ae_v 3) (ae_int)) (ae_int)) (ae_v 3) (ae_int))
      (ass_cons (as_set 5 sc_law_sentence.nd (ae_call (K := K) (hk := by first | exact Nat.le_refl _ | exact Nat.le_trans (by decide) (Nat.le_add_right 5 d)) c_law_sentence hr hgd (aa_cons (ae_v 0) (aa_cons (ae_v 1) (aa_cons (ae_op (ao_add (K := K)) (ae_v 2) (ae_int)) (aa_cons (ae_v 3) (aa_nil)))))) rfl (.inl rfl))
      (ass_one (as_ret (ae_tup (aa_cons (ae_ix (K := K) (ae_lst (aa_cons (ae_str) (aa_cons (ae_str) (aa_nil)))) (ae_op ao_sub (ae_v 4) (ae_int))) (aa_cons (ae_v 5) (aa_cons (ae_call (K := K) (hk := by first | exact Nat.le_refl _ | exact Nat.le_trans (by decide) (Nat.le_add_right 5 d)) c_law_sentence hr hgd (aa_cons (ae_v 0) (aa_cons (ae_v 1) (aa_cons (ae_op (ao_add (K := K)) (ae_v 2) (ae_int)) (aa_cons (ae_v 3) (aa_nil)))))) (aa_nil)))))))))))⟩

abbrev st_is_sentence : Stmt := topS 26
theorem sc_is_sentence : FnScope ["tongue", "thing", "layer", "many", "deep", "one", "further"] ["tongue", "thing"] (defScope st_is_sentence) := ⟨rfl, rfl, rfl, by decide +kernel, rfl, by decide +kernel, by decide +kernel⟩
theorem ok_is_sentence {P : Program} {w : World} {K : PySem.W.Frag} {mg : Str → Option Value} {base : Heap} {f : Addr} {fd : FuncData} (F : L2.Fun K "is_sentence" "is_sentence" st_is_sentence f fd) (hm : mg "is_sentence" = some (.ref f)) (hb : Binds K fd ["tongue", "thing"] []) (m_all : mg "all" = none) (m_len : mg "len" = none) (m_range : mg "range" = none) (g_MOST_DEEP : ∃ u, mg "MOST_DEEP" = some u ∧ RelV (.int 4) u) (g_MOST_PARTS : ∃ u, mg "MOST_PARTS" = some u ∧ RelV (.int 9) u) (c_parts_of : Cal P w K mg base 1 "parts_of" 1 s_parts_of) (c_is_formed : Cal P w K mg base 5 "is_formed" 2 s_is_formed) : Cal P w K mg base 6 "is_sentence" 2 s_is_sentence := by
  refine calA (b := a_is_sentence) F sc_is_sentence rfl hm hb ?_ (fun _ _ _ _ h => h)
  intro cdv A outer s H E hr hgd
  exact ⟨_, ass_cons (as_set 2 sc_is_sentence.nd (ae_lst (aa_cons (ae_v 1) (aa_nil))) rfl (.inl rfl))
      (ass_cons (as_set 3 sc_is_sentence.nd (ae_int) rfl (.inl rfl))
      (ass_cons (as_for (ai_range1 m_range (aa_cons (ae_gint g_MOST_DEEP) (aa_nil))) (ag_name 4 (vs := [4]) sc_is_sentence.nd rfl (.inl rfl))
      (ass_cons (as_set 3 sc_is_sentence.nd (ae_op (ao_add (K := K)) (ae_v 3) (ae_callB (ac_len (K := K)) m_len (by decide +kernel) (aa_cons (ae_v 2) (aa_nil)))) rfl (.inl rfl))
      (ass_cons (as_if (aw_t (aw_or (at_cmp ao_gt (ae_v 3) (ae_gint g_MOST_PARTS)) (aw_or1 (at_not (at_tru (K := K) (ae_callB (ac_all (K := K)) m_all (by decide +kernel) (aa_cons (ae_lc [("one", 5)] sc_is_sentence.nd (ai_list (K := K) (ae_v 2)) (blkOk_by (own := [("one", 5)]) (N := ["tongue", "thing", "layer", "many", "deep", "one", "further"]) (sc := defScope st_is_sentence) (by decide +kernel)) (fun _ _ _ _ _ => ag_name 5 (vs := [5]) sc_is_sentence.nd rfl (.inl rfl)) (fun _ _ _ _ _ => ats_nil) (fun _ _ _ _ _ => ae_call (K := K) c_is_formed hr hgd (aa_cons (ae_v 0) (aa_cons (ae_v 5) (aa_nil))))) (aa_nil))))))))
      (ass_one (as_ret (ae_bl)))
      (ass_nil))
      (ass_cons (as_set 6 sc_is_sentence.nd (ae_lstM (aa_nil)) rfl (.inl rfl))
      (ass_cons (as_for (ai_list (K := K) (ae_v 2)) (ag_name 5 (vs := [5]) sc_is_sentence.nd rfl (.inl rfl))
      (ass_one (as_expr (ae_meth (K := K) PySem.F.plainAttrs_list PySem.F.slot_list_extend PySem.F.type_list_extend am_extend (ae_v 6) (aa_cons (ae_call (K := K) c_parts_of hr hgd (aa_cons (ae_v 5) (aa_nil))) (aa_nil))))))
      (ass_frz 6 (ass_one (as_set 2 sc_is_sentence.nd (ae_v 6) rfl (.inl rfl)))))))))
      (ass_one (as_ret (ae_cmp (ao_eqNil (K := K) hr.units) (ae_v 2) (ae_lst (aa_nil)))))))⟩

abbrev st_is_rule : Stmt := topS 29
theorem sc_is_rule : FnScope ["thing", "one"] ["thing"] (defScope st_is_rule) := ⟨rfl, rfl, rfl, by decide +kernel, rfl, by decide +kernel, by decide +kernel⟩
theorem ok_is_rule {P : Program} {w : World} {K : PySem.W.Frag} {mg : Str → Option Value} {base : Heap} {f : Addr} {fd : FuncData} (F : L2.Fun K "is_rule" "is_rule" st_is_rule f fd) (hm : mg "is_rule" = some (.ref f)) (hb : Binds K fd ["thing"] []) (m_all : mg "all" = none) (m_isinstance : mg "isinstance" = none) (m_len : mg "len" = none) (m_tuple : mg "tuple" = none) (g_MOST_SENTENCES : ∃ u, mg "MOST_SENTENCES" = some u ∧ RelV (.int 8) u) (c_is_tongue : Cal P w K mg base 2 "is_tongue" 1 s_is_tongue) (c_is_sentence : Cal P w K mg base 6 "is_sentence" 2 s_is_sentence) : Cal P w K mg base 7 "is_rule" 1 s_is_rule := by
  refine calA (b := a_is_rule) F sc_is_rule rfl hm hb ?_ (fun _ _ _ _ h => h)
  intro cdv A outer s H E hr hgd
  exact ⟨_, ass_cons (as_if (aw_t (aw_or (at_not (at_tru (K := K) (ae_isi (K := K) (ae_v 0) m_isinstance m_tuple (by decide +kernel)))) (aw_or (at_cmp (ao_ne (K := K) hr.units) (ae_callB (ac_len (K := K)) m_len (by decide +kernel) (aa_cons (ae_v 0) (aa_nil))) (ae_int)) (aw_or1 (at_not (at_tru (K := K) (ae_call (K := K) c_is_tongue hr hgd (aa_cons (ae_ix (K := K) (ae_v 0) (ae_int)) (aa_nil)))))))))
      (ass_one (as_ret (ae_bl)))
      (ass_nil))
      (ass_cons (as_if (aw_t (aw_or (at_not (at_tru (K := K) (ae_isi (K := K) (ae_ix (K := K) (ae_v 0) (ae_int)) m_isinstance m_tuple (by decide +kernel)))) (aw_or1 (at_cmp ao_gt (ae_callB (ac_len (K := K)) m_len (by decide +kernel) (aa_cons (ae_ix (K := K) (ae_v 0) (ae_int)) (aa_nil))) (ae_gint g_MOST_SENTENCES)))))
      (ass_one (as_ret (ae_bl)))
      (ass_nil))
      (ass_one (as_ret (ae_callB (ac_all (K := K)) m_all (by decide +kernel) (aa_cons (ae_lc [("one", 1)] sc_is_rule.nd (ai_tup (K := K) (ae_ix (K := K) (ae_v 0) (ae_int))) (blkOk_by (own := [("one", 1)]) (N := ["thing", "one"]) (sc := defScope st_is_rule) (by decide +kernel)) (fun _ _ _ _ _ => ag_name 1 (vs := [1]) sc_is_rule.nd rfl (.inl rfl)) (fun _ _ _ _ _ => ats_nil) (fun _ _ _ _ _ => ae_call (K := K) c_is_sentence hr hgd (aa_cons (ae_ix (K := K) (ae_v 0) (ae_int)) (aa_cons (ae_v 1) (aa_nil))))) (aa_nil))))))⟩

abbrev st_show_rule : Stmt := topS 34
theorem sc_show_rule : FnScope ["rule", "lines", "sentence"] ["rule"] (defScope st_show_rule) := ⟨rfl, rfl, rfl, by decide +kernel, rfl, by decide +kernel, by decide +kernel⟩
theorem ok_show_rule {P : Program} {w : World} {K : PySem.W.Frag} {mg : Str → Option Value} {base : Heap} {f : Addr} {fd : FuncData} (F : L2.Fun K "show_rule" "show_rule" st_show_rule f fd) (hm : mg "show_rule" = some (.ref f)) (hb : Binds K fd ["rule"] []) (c_show_sentence : Cal P w K mg base 9 "show_sentence" 1 (s_show_sentence 8)) : Cal P w K mg base 10 "show_rule" 1 s_show_rule := by
  refine calA (b := a_show_rule) F sc_show_rule rfl hm hb ?_ (fun _ _ _ _ h => h)
  intro cdv A outer s H E hr hgd
  exact ⟨_, ass_cons (as_set 1 sc_show_rule.nd (ae_lst (aa_cons (ae_op (ao_add (K := K)) (ae_str) (ae_meth (K := K) PySem.F.plainAttrs_str PySem.F.slot_str_join PySem.F.type_str_join (am_join (K := K)) (ae_str) (aa_cons (ae_ix (K := K) (ae_v 0) (ae_int)) (aa_nil)))) (aa_nil))) rfl (.inl rfl))
      (ass_one (as_ret (ae_meth (K := K) PySem.F.plainAttrs_str PySem.F.slot_str_join PySem.F.type_str_join (am_join (K := K)) (ae_str) (aa_cons (ae_op (ao_add (K := K)) (ae_v 1) (ae_lc [("sentence", 2)] sc_show_rule.nd (ai_tup (K := K) (ae_ix (K := K) (ae_v 0) (ae_int))) (blkOk_by (own := [("sentence", 2)]) (N := ["rule", "lines", "sentence"]) (sc := defScope st_show_rule) (by decide +kernel)) (fun _ _ _ _ _ => ag_name 2 (vs := [2]) sc_show_rule.nd rfl (.inl rfl)) (fun _ _ _ _ _ => ats_nil) (fun _ _ _ _ _ => ae_call (K := K) c_show_sentence hr hgd (aa_cons (ae_v 2) (aa_nil))))) (aa_nil)))))⟩

abbrev st_law_text : Stmt := topS 52
theorem sc_law_text : FnScope ["_law_rule_here", "_law_lines", "_law_sentence_here"] ["_law_rule_here"] (defScope st_law_text) := ⟨rfl, rfl, rfl, by decide +kernel, rfl, by decide +kernel, by decide +kernel⟩
theorem ok_law_text {P : Program} {w : World} {K : PySem.W.Frag} {mg : Str → Option Value} {base : Heap} {f : Addr} {fd : FuncData} (F : L2.Fun K "_law_text" "_law_text" st_law_text f fd) (hm : mg "_law_text" = some (.ref f)) (hb : Binds K fd ["_law_rule_here"] []) (m_list : mg "list" = none) (c_law_words : Cal P w K mg base 9 "_law_words" 1 (s_law_words 8)) : Cal P w K mg base 10 "_law_text" 1 s_law_text := by
  refine calA (b := a_law_text) F sc_law_text rfl hm hb ?_ (fun _ _ _ _ h => h)
  intro cdv A outer s H E hr hgd
  exact ⟨_, ass_cons (as_set 1 sc_law_text.nd (ae_lstM (aa_cons (ae_meth (K := K) PySem.F.plainAttrs_str PySem.F.slot_str_join PySem.F.type_str_join (am_join (K := K)) (ae_str) (aa_cons (ae_op (ao_add (K := K)) (ae_lst (aa_cons (ae_str) (aa_nil))) (ae_callT (ac_list (K := K)) m_list (by decide +kernel) (aa_cons (ae_ix (K := K) (ae_v 0) (ae_int)) (aa_nil)))) (aa_nil))) (aa_nil))) rfl (.inl rfl))
      (ass_cons (as_for (ai_tup (K := K) (ae_ix (K := K) (ae_v 0) (ae_int))) (ag_name 2 (vs := [2]) sc_law_text.nd rfl (.inl rfl))
      (ass_one (as_expr (ae_meth (K := K) PySem.F.plainAttrs_list PySem.F.slot_list_append PySem.F.type_list_append am_append (ae_v 1) (aa_cons (ae_meth (K := K) PySem.F.plainAttrs_str PySem.F.slot_str_join PySem.F.type_str_join (am_join (K := K)) (ae_str) (aa_cons (ae_call (K := K) c_law_words hr hgd (aa_cons (ae_v 2) (aa_nil))) (aa_nil))) (aa_nil))))))
      (ass_frz 1 (ass_one (as_ret (ae_meth (K := K) PySem.F.plainAttrs_str PySem.F.slot_str_join PySem.F.type_str_join (am_join (K := K)) (ae_str) (aa_cons (ae_v 1) (aa_nil)))))))⟩

abbrev st_read_sentence : Stmt := topS 39
theorem sc_read_sentence : FnScope ["tongue", "text", "words", "sentence", "at"] ["tongue", "text"] (defScope st_read_sentence) := ⟨rfl, rfl, rfl, by decide +kernel, rfl, by decide +kernel, by decide +kernel⟩
theorem ok_read_sentence {P : Program} {w : World} {K : PySem.W.Frag} {mg : Str → Option Value} {base : Heap} {f : Addr} {fd : FuncData} (F : L2.Fun K "read_sentence" "read_sentence" st_read_sentence f fd) (hm : mg "read_sentence" = some (.ref f)) (hb : Binds K fd ["tongue", "text"] []) (m_len : mg "len" = none) (c_read_part : Cal P w K mg base 11 "read_part" 3 (s_read_part 8)) (c_is_sentence : Cal P w K mg base 6 "is_sentence" 2 s_is_sentence) : Cal P w K mg base 12 "read_sentence" 2 s_read_sentence := by
  refine calA (b := a_read_sentence) F sc_read_sentence rfl hm hb ?_ (fun _ _ _ _ h => h)
  intro cdv A outer s H E hr hgd
  exact ⟨_, ass_cons (as_set 2 sc_read_sentence.nd (ae_meth (K := K) PySem.F.plainAttrs_str PySem.F.slot_str_split PySem.F.type_str_split am_split (ae_v 1) (aa_cons (ae_str) (aa_nil))) rfl (.inl rfl))
      (ass_cons (as_asg (ae_call (K := K) c_read_part hr hgd (aa_cons (ae_v 2) (aa_cons (ae_int) (aa_cons (ae_int) (aa_nil))))) (ag_tup (K := K) (ags_cons (ag_name 3 (vs := [3, 4]) sc_read_sentence.nd rfl (.inl rfl)) (ags_cons (ag_name 4 (vs := [3, 4]) sc_read_sentence.nd rfl (.inl rfl)) (ags_nil)))))
      (ass_cons (as_if (aw_t (aw_or (at_cmp (ao_ne (K := K) hr.units) (ae_v 4) (ae_callB (ac_len (K := K)) m_len (by decide +kernel) (aa_cons (ae_v 2) (aa_nil)))) (aw_or1 (at_not (at_tru (K := K) (ae_call (K := K) c_is_sentence hr hgd (aa_cons (ae_v 0) (aa_cons (ae_v 3) (aa_nil)))))))))
      (ass_one (as_no))
      (ass_nil))
      (ass_one (as_ret (ae_v 3)))))⟩

abbrev st_read_rule : Stmt := topS 40
theorem sc_read_rule : FnScope ["text", "lines", "words", "tongue", "rule", "line"] ["text"] (defScope st_read_rule) := ⟨rfl, rfl, rfl, by decide +kernel, rfl, by decide +kernel, by decide +kernel⟩
theorem ok_read_rule {P : Program} {w : World} {K : PySem.W.Frag} {mg : Str → Option Value} {base : Heap} {f : Addr} {fd : FuncData} (F : L2.Fun K "read_rule" "read_rule" st_read_rule f fd) (hm : mg "read_rule" = some (.ref f)) (hb : Binds K fd ["text"] []) (m_isinstance : mg "isinstance" = none) (m_len : mg "len" = none) (m_str : mg "str" = none) (m_tuple : mg "tuple" = none) (c_is_tongue : Cal P w K mg base 2 "is_tongue" 1 s_is_tongue) (c_is_rule : Cal P w K mg base 7 "is_rule" 1 s_is_rule) (c_read_sentence : Cal P w K mg base 12 "read_sentence" 2 s_read_sentence) : Cal P w K mg base 13 "read_rule" 1 s_read_rule := by
  refine calA (b := a_read_rule) F sc_read_rule rfl hm hb ?_ (fun _ _ _ _ h => h)
  intro cdv A outer s H E hr hgd
  exact ⟨_, ass_cons (as_if (at_not (at_tru (K := K) (ae_isi (K := K) (ae_v 0) m_isinstance m_str (by decide +kernel))))
      (ass_one (as_no))
      (ass_nil))
      (ass_cons (as_set 1 sc_read_rule.nd (ae_meth (K := K) PySem.F.plainAttrs_str PySem.F.slot_str_split PySem.F.type_str_split am_split (ae_v 0) (aa_cons (ae_str) (aa_nil))) rfl (.inl rfl))
      (ass_cons (as_set 2 sc_read_rule.nd (ae_meth (K := K) PySem.F.plainAttrs_str PySem.F.slot_str_split PySem.F.type_str_split am_split (ae_ix (K := K) (ae_v 1) (ae_int)) (aa_cons (ae_str) (aa_nil))) rfl (.inl rfl))
      (ass_cons (as_set 3 sc_read_rule.nd (ae_callT (ac_tuple (K := K)) m_tuple (by decide +kernel) (aa_cons (ae_cut (K := K) (ae_v 2) (ao_some (ae_int)) ao_none) (aa_nil))) rfl (.inr rfl))
      (ass_cons (as_if (aw_t (aw_or (at_cmp (ao_ne (K := K) hr.units) (ae_ix (K := K) (ae_v 2) (ae_int)) (ae_str)) (aw_or (at_not (at_tru (K := K) (ae_call (K := K) c_is_tongue hr hgd (aa_cons (ae_v 3) (aa_nil))))) (aw_or1 (at_cmp ao_gt (ae_callB (ac_len (K := K)) m_len (by decide +kernel) (aa_cons (ae_v 1) (aa_nil))) (ae_int))))))
      (ass_one (as_no))
      (ass_nil))
      (ass_cons (as_set 4 sc_read_rule.nd (ae_tup (aa_cons (ae_v 3) (aa_cons (ae_callT (ac_tuple (K := K)) m_tuple (by decide +kernel) (aa_cons (ae_lc [("line", 5)] sc_read_rule.nd (ai_list (K := K) (ae_cut (K := K) (ae_v 1) (ao_some (ae_int)) ao_none)) (blkOk_by (own := [("line", 5)]) (N := ["text", "lines", "words", "tongue", "rule", "line"]) (sc := defScope st_read_rule) (by decide +kernel)) (fun _ _ _ _ _ => ag_name 5 (vs := [5]) sc_read_rule.nd rfl (.inl rfl)) (fun _ _ _ _ _ => ats_nil) (fun _ _ _ _ _ => ae_call (K := K) c_read_sentence hr hgd (aa_cons (ae_v 3) (aa_cons (ae_v 5) (aa_nil))))) (aa_nil))) (aa_nil)))) rfl (.inl rfl))
      (ass_cons (as_if (at_not (at_tru (K := K) (ae_call (K := K) c_is_rule hr hgd (aa_cons (ae_v 4) (aa_nil)))))
      (ass_one (as_no))
      (ass_nil))
      (ass_one (as_ret (ae_v 4)))))))))⟩

abbrev st_law_rule : Stmt := topS 50
theorem sc_law_rule : FnScope ["_law_pen_here", "_law_most", "_law_tongue_here", "_law_k"] ["_law_pen_here", "_law_most"] (defScope st_law_rule) := ⟨rfl, rfl, rfl, by decide +kernel, rfl, by decide +kernel, by decide +kernel⟩
theorem ok_law_rule {P : Program} {w : World} {K : PySem.W.Frag} {mg : Str → Option Value} {base : Heap} {f : Addr} {fd : FuncData} (F : L2.Fun K "_law_rule" "_law_rule" st_law_rule f fd) (hm : mg "_law_rule" = some (.ref f)) (hb : Binds K fd ["_law_pen_here", "_law_most"] []) (m_range : mg "range" = none) (m_tuple : mg "tuple" = none) (c_law_take : Cal P w K mg base 2 "_law_take" 2 s_law_take) (c_law_any_tongue : Cal P w K mg base 4 "_law_any_tongue" 1 s_law_any_tongue) (c_law_sentence : Cal P w K mg base 13 "_law_sentence" 4 (s_law_sentence 8)) : Cal P w K mg base 14 "_law_rule" 2 s_law_rule := by
  refine calA (b := a_law_rule) F sc_law_rule rfl hm hb ?_ (fun _ _ _ _ h => h)
  intro cdv A outer s H E hr hgd
  exact ⟨_, ass_cons (as_set 2 sc_law_rule.nd (ae_call (K := K) c_law_any_tongue hr hgd (aa_cons (ae_v 0) (aa_nil))) rfl (.inr rfl))
      (ass_one (as_ret (ae_tup (aa_cons (ae_v 2) (aa_cons (ae_callT (ac_tuple (K := K)) m_tuple (by decide +kernel) (aa_cons (ae_lc [("_law_k", 3)] sc_law_rule.nd (ai_range1 m_range (aa_cons (ae_call (K := K) c_law_take hr hgd (aa_cons (ae_v 0) (aa_cons (ae_op (ao_add (K := K)) (ae_v 1) (ae_int)) (aa_nil)))) (aa_nil))) (blkOk_by (own := [("_law_k", 3)]) (N := ["_law_pen_here", "_law_most", "_law_tongue_here", "_law_k"]) (sc := defScope st_law_rule) (by decide +kernel)) (fun _ _ _ _ _ => ag_name 3 (vs := [3]) sc_law_rule.nd rfl (.inl rfl)) (fun _ _ _ _ _ => ats_nil) (fun _ _ _ _ _ => ae_call (K := K) c_law_sentence hr hgd (aa_cons (ae_v 0) (aa_cons (ae_v 2) (aa_cons (ae_int) (aa_cons (ae_lstM (aa_cons (ae_int) (aa_nil))) (aa_nil))))))) (aa_nil))) (aa_nil))))))⟩

abbrev st_law : Stmt := topS 54
theorem sc_law : FnScope ["_law_script", "_law_rules", "_law_words_here", "_law_inner", "_law_full", "_law_rule_here", "_law_text_here", "_law_told"] ["_law_script"] (defScope st_law) := ⟨rfl, rfl, rfl, by decide +kernel, rfl, by decide +kernel, by decide +kernel⟩
theorem okF_law {P : Program} {w : World} {K : PySem.W.Frag} {mg : Str → Option Value} {base : Heap} {f : Addr} {fd : FuncData} (F : L2.Fun K "law" "law" st_law f fd) (m_isinstance : mg "isinstance" = none) (m_str : mg "str" = none) (c_law_pen : Cal P w K mg base 1 "_law_pen" 2 s_law_pen) (c_law_words : Cal P w K mg base 9 "_law_words" 1 (s_law_words 8)) (c_law_same : Cal P w K mg base 9 "_law_same" 2 (s_law_same 8)) (c_show_rule : Cal P w K mg base 10 "show_rule" 1 s_show_rule) (c_law_text : Cal P w K mg base 10 "_law_text" 1 s_law_text) (c_read_rule : Cal P w K mg base 13 "read_rule" 1 s_read_rule) (c_law_rule : Cal P w K mg base 14 "_law_rule" 2 s_law_rule) : FnG P w K mg base 15 f fd ["_law_script"] (spOf K 1 s_law) := by
  refine fnA (b := a_law) F sc_law ?_ (fun _ _ _ _ h => h)
  intro cdv A outer s H E hr hgd
  exact ⟨_, ass_cons (as_set 1 sc_law.nd (ae_lst (aa_cons (ae_call (K := K) c_law_rule hr hgd (aa_cons (ae_call (K := K) c_law_pen hr hgd (aa_cons (ae_v 0) (aa_cons (ae_int) (aa_nil)))) (aa_cons (ae_int) (aa_nil)))) (aa_cons (ae_call (K := K) c_law_rule hr hgd (aa_cons (ae_call (K := K) c_law_pen hr hgd (aa_cons (ae_v 0) (aa_cons (ae_int) (aa_nil)))) (aa_cons (ae_int) (aa_nil)))) (aa_nil)))) rfl (.inl rfl))
      (ass_cons (as_set 2 sc_law.nd (ae_meth (K := K) PySem.F.plainAttrs_str PySem.F.slot_str_split PySem.F.type_str_split am_split (ae_str) (aa_cons (ae_str) (aa_nil))) rfl (.inl rfl))
      (ass_cons (as_set 3 sc_law.nd (ae_tup (aa_cons (ae_str) (aa_cons (ae_tup (aa_cons (ae_str) (aa_nil))) (aa_cons (ae_tup (aa_cons (ae_str) (aa_nil))) (aa_nil))))) rfl (.inl rfl))
      (ass_cons (as_set 4 sc_law.nd (ae_tup (aa_cons (ae_ix (K := K) (ae_ix (K := K) (ae_v 1) (ae_int)) (ae_int)) (aa_cons (ae_tup (aa_cons (ae_tup (aa_cons (ae_str) (aa_cons (ae_tup (aa_cons (ae_str) (aa_cons (ae_v 3) (aa_cons (ae_tup (aa_cons (ae_str) (aa_nil))) (aa_nil))))) (aa_cons (ae_v 3) (aa_nil))))) (aa_nil))) (aa_nil)))) rfl (.inl rfl))
      (ass_cons (as_if (at_cmp (ao_ne (K := K) hr.units) (ae_lst (aa_cons (ae_meth (K := K) PySem.F.plainAttrs_str PySem.F.slot_str_join PySem.F.type_str_join (am_join (K := K)) (ae_str) (aa_cons (ae_v 2) (aa_nil))) (aa_nil))) (ae_lst (aa_cons (ae_meth (K := K) PySem.F.plainAttrs_str PySem.F.slot_str_join PySem.F.type_str_join (am_join (K := K)) (ae_str) (aa_cons (ae_call (K := K) c_law_words hr hgd (aa_cons (ae_ix (K := K) (ae_ix (K := K) (ae_v 4) (ae_int)) (ae_int)) (aa_nil))) (aa_nil))) (aa_nil))))
      (ass_one (as_ret (ae_bl)))
      (ass_nil))
      (ass_cons (as_for (ai_list (K := K) (ae_op (ao_add (K := K)) (ae_op (ao_add (K := K)) (ae_op (ao_add (K := K)) (ae_v 1) (ae_lst (aa_cons (ae_v 4) (aa_nil)))) (ae_v 1)) (ae_lst (aa_cons (ae_v 4) (aa_nil))))) (ag_name 5 (vs := [5]) sc_law.nd rfl (.inl rfl))
      (ass_cons (as_set 6 sc_law.nd (ae_call (K := K) c_law_text hr hgd (aa_cons (ae_v 5) (aa_nil))) rfl (.inl rfl))
      (ass_cons (as_set 7 sc_law.nd (ae_call (K := K) c_show_rule hr hgd (aa_cons (ae_v 5) (aa_nil))) rfl (.inl rfl))
      (ass_one (as_if (aw_t (aw_or (at_not (at_tru (K := K) (ae_isi (K := K) (ae_v 7) m_isinstance m_str (by decide +kernel)))) (aw_or (at_cmp (ao_ne (K := K) hr.units) (ae_v 7) (ae_v 6)) (aw_or1 (at_not (at_tru (K := K) (ae_call (K := K) c_law_same hr hgd (aa_cons (ae_call (K := K) c_read_rule hr hgd (aa_cons (ae_v 6) (aa_nil))) (aa_cons (ae_v 5) (aa_nil))))))))))
      (ass_one (as_ret (ae_bl)))
      (ass_nil))))))
      (ass_one (as_ret (ae_bl))))))))⟩

theorem all_mk {l : PySem.W.OpenLaw} {w : World} {K : PySem.W.Frag} {h : Heap} {mg : Str → Option Value} {fa f1 f2 f3 f4 f5 f6 f7 f8 f9 f10 f11 f12 f13 f14 f15 f16 f17 f18 f19 f20 f21 f22 f23 f24 f25 f26 f27 f28 f29 f30 f31 f32 f33 : Addr} (X : K.In h) (G : h.Ns mainGlobals mg) (hfa : mg "law" = some (.ref fa))
    {od1 an1 od2 an2 od3 an3 od4 an4 od5 an5 od6 an6 od7 an7 od8 an8 od9 an9 od10 an10 od11 an11 od12 an12 od13 an13 od14 an14 od15 an15 od16 an16 od17 an17 od18 an18 od19 an19 od20 an20 od21 an21 od22 an22 od23 an23 od24 an24 od25 an25 od26 an26 od27 an27 od28 an28 od29 an29 od30 an30 od31 an31 od32 an32 od33 an33 : Option Addr} {sl1 sl2 sl3 sl4 sl5 sl6 sl7 sl8 sl9 sl10 sl11 sl12 sl13 sl14 sl15 sl16 sl17 sl18 sl19 sl20 sl21 sl22 sl23 sl24 sl25 sl26 sl27 sl28 sl29 sl30 sl31 sl32 sl33 : Array (Option Value)} {oc1 kV1 dc1 pm1 cd1 ct1 oc2 kV2 dc2 pm2 cd2 ct2 oc3 kV3 dc3 pm3 cd3 ct3 oc4 kV4 dc4 pm4 cd4 ct4 oc5 kV5 dc5 pm5 cd5 ct5 oc6 kV6 dc6 pm6 cd6 ct6 oc7 kV7 dc7 pm7 cd7 ct7 oc8 kV8 dc8 pm8 cd8 ct8 oc9 kV9 dc9 pm9 cd9 ct9 oc10 kV10 dc10 pm10 cd10 ct10 oc11 kV11 dc11 pm11 cd11 ct11 oc12 kV12 dc12 pm12 cd12 ct12 oc13 kV13 dc13 pm13 cd13 ct13 oc14 kV14 dc14 pm14 cd14 ct14 oc15 kV15 dc15 pm15 cd15 ct15 oc16 kV16 dc16 pm16 cd16 ct16 oc17 kV17 dc17 pm17 cd17 ct17 oc18 kV18 dc18 pm18 cd18 ct18 oc19 kV19 dc19 pm19 cd19 ct19 oc20 kV20 dc20 pm20 cd20 ct20 oc21 kV21 dc21 pm21 cd21 ct21 oc22 kV22 dc22 pm22 cd22 ct22 oc23 kV23 dc23 pm23 cd23 ct23 oc24 kV24 dc24 pm24 cd24 ct24 oc25 kV25 dc25 pm25 cd25 ct25 oc26 kV26 dc26 pm26 cd26 ct26 oc27 kV27 dc27 pm27 cd27 ct27 oc28 kV28 dc28 pm28 cd28 ct28 oc29 kV29 dc29 pm29 cd29 ct29 oc30 kV30 dc30 pm30 cd30 ct30 oc31 kV31 dc31 pm31 cd31 ct31 oc32 kV32 dc32 pm32 cd32 ct32 oc33 kV33 dc33 pm33 cd33 ct33 : Value} {t0 t1 t2 t4 t5 t6 t7 t8 t9 t10 t11 t12 : Tok} {dG3 : Addr} {esG3 : Array DictEntry} {nG3 : Nat} {dG13 : Addr} {esG13 : Array DictEntry} {nG13 : Nat}
    (a1 : PySem.W.nsIn K mainGlobals "is_whole" = some (some (.ref f1))) (l1 : K.lookup f1 = some ⟨oc1, od1, .func (PySem.W.fnOf "is_whole" "is_whole" (defArgs st_is_whole) (defBody st_is_whole) (defScope st_is_whole) .none kV1 dc1 pm1 an1 cd1 ct1), sl1⟩) (c1 : PySem.W.codeIn K cd1 "is_whole" = true) (k1 : PySem.W.keepIn K (.ref f1) = true)
    (a2 : PySem.W.nsIn K mainGlobals "is_sign" = some (some (.ref f2))) (l2 : K.lookup f2 = some ⟨oc2, od2, .func (PySem.W.fnOf "is_sign" "is_sign" (defArgs st_is_sign) (defBody st_is_sign) (defScope st_is_sign) .none kV2 dc2 pm2 an2 cd2 ct2), sl2⟩) (c2 : PySem.W.codeIn K cd2 "is_sign" = true) (k2 : PySem.W.keepIn K (.ref f2) = true)
    (a3 : PySem.W.nsIn K mainGlobals "signs_of" = some (some (.ref f3))) (l3 : K.lookup f3 = some ⟨oc3, od3, .func (PySem.W.fnOf "signs_of" "signs_of" (defArgs st_signs_of) (defBody st_signs_of) (defScope st_signs_of) .none kV3 dc3 pm3 an3 cd3 ct3), sl3⟩) (c3 : PySem.W.codeIn K cd3 "signs_of" = true) (k3 : PySem.W.keepIn K (.ref f3) = true)
    (a4 : PySem.W.nsIn K mainGlobals "parts_of" = some (some (.ref f4))) (l4 : K.lookup f4 = some ⟨oc4, od4, .func (PySem.W.fnOf "parts_of" "parts_of" (defArgs st_parts_of) (defBody st_parts_of) (defScope st_parts_of) .none kV4 dc4 pm4 an4 cd4 ct4), sl4⟩) (c4 : PySem.W.codeIn K cd4 "parts_of" = true) (k4 : PySem.W.keepIn K (.ref f4) = true)
    (a5 : PySem.W.nsIn K mainGlobals "show_sentence" = some (some (.ref f5))) (l5 : K.lookup f5 = some ⟨oc5, od5, .func (PySem.W.fnOf "show_sentence" "show_sentence" (defArgs st_show_sentence) (defBody st_show_sentence) (defScope st_show_sentence) .none kV5 dc5 pm5 an5 cd5 ct5), sl5⟩) (c5 : PySem.W.codeIn K cd5 "show_sentence" = true) (k5 : PySem.W.keepIn K (.ref f5) = true)
    (a6 : PySem.W.nsIn K mainGlobals "read_number" = some (some (.ref f6))) (l6 : K.lookup f6 = some ⟨oc6, od6, .func (PySem.W.fnOf "read_number" "read_number" (defArgs st_read_number) (defBody st_read_number) (defScope st_read_number) .none kV6 dc6 pm6 an6 cd6 ct6), sl6⟩) (c6 : PySem.W.codeIn K cd6 "read_number" = true) (k6 : PySem.W.keepIn K (.ref f6) = true)
    (a7 : PySem.W.nsIn K mainGlobals "word_there" = some (some (.ref f7))) (l7 : K.lookup f7 = some ⟨oc7, od7, .func (PySem.W.fnOf "word_there" "word_there" (defArgs st_word_there) (defBody st_word_there) (defScope st_word_there) .none kV7 dc7 pm7 an7 cd7 ct7), sl7⟩) (c7 : PySem.W.codeIn K cd7 "word_there" = true) (k7 : PySem.W.keepIn K (.ref f7) = true)
    (a8 : PySem.W.nsIn K mainGlobals "_law_pen" = some (some (.ref f8))) (l8 : K.lookup f8 = some ⟨oc8, od8, .func (PySem.W.fnOf "_law_pen" "_law_pen" (defArgs st_law_pen) (defBody st_law_pen) (defScope st_law_pen) .none kV8 dc8 pm8 an8 cd8 ct8), sl8⟩) (c8 : PySem.W.codeIn K cd8 "_law_pen" = true) (k8 : PySem.W.keepIn K (.ref f8) = true)
    (a9 : PySem.W.nsIn K mainGlobals "_law_mixed" = some (some (.ref f9))) (l9 : K.lookup f9 = some ⟨oc9, od9, .func (PySem.W.fnOf "_law_mixed" "_law_mixed" (defArgs st_law_mixed) (defBody st_law_mixed) (defScope st_law_mixed) .none kV9 dc9 pm9 an9 cd9 ct9), sl9⟩) (c9 : PySem.W.codeIn K cd9 "_law_mixed" = true) (k9 : PySem.W.keepIn K (.ref f9) = true)
    (a10 : PySem.W.nsIn K mainGlobals "_law_words" = some (some (.ref f10))) (l10 : K.lookup f10 = some ⟨oc10, od10, .func (PySem.W.fnOf "_law_words" "_law_words" (defArgs st_law_words) (defBody st_law_words) (defScope st_law_words) .none kV10 dc10 pm10 an10 cd10 ct10), sl10⟩) (c10 : PySem.W.codeIn K cd10 "_law_words" = true) (k10 : PySem.W.keepIn K (.ref f10) = true)
    (a11 : PySem.W.nsIn K mainGlobals "_law_same" = some (some (.ref f11))) (l11 : K.lookup f11 = some ⟨oc11, od11, .func (PySem.W.fnOf "_law_same" "_law_same" (defArgs st_law_same) (defBody st_law_same) (defScope st_law_same) .none kV11 dc11 pm11 an11 cd11 ct11), sl11⟩) (c11 : PySem.W.codeIn K cd11 "_law_same" = true) (k11 : PySem.W.keepIn K (.ref f11) = true)
    (a12 : PySem.W.nsIn K mainGlobals "is_tongue" = some (some (.ref f12))) (l12 : K.lookup f12 = some ⟨oc12, od12, .func (PySem.W.fnOf "is_tongue" "is_tongue" (defArgs st_is_tongue) (defBody st_is_tongue) (defScope st_is_tongue) .none kV12 dc12 pm12 an12 cd12 ct12), sl12⟩) (c12 : PySem.W.codeIn K cd12 "is_tongue" = true) (k12 : PySem.W.keepIn K (.ref f12) = true)
    (a13 : PySem.W.nsIn K mainGlobals "has_signs" = some (some (.ref f13))) (l13 : K.lookup f13 = some ⟨oc13, od13, .func (PySem.W.fnOf "has_signs" "has_signs" (defArgs st_has_signs) (defBody st_has_signs) (defScope st_has_signs) .none kV13 dc13 pm13 an13 cd13 ct13), sl13⟩) (c13 : PySem.W.codeIn K cd13 "has_signs" = true) (k13 : PySem.W.keepIn K (.ref f13) = true)
    (a14 : PySem.W.nsIn K mainGlobals "is_within" = some (some (.ref f14))) (l14 : K.lookup f14 = some ⟨oc14, od14, .func (PySem.W.fnOf "is_within" "is_within" (defArgs st_is_within) (defBody st_is_within) (defScope st_is_within) .none kV14 dc14 pm14 an14 cd14 ct14), sl14⟩) (c14 : PySem.W.codeIn K cd14 "is_within" = true) (k14 : PySem.W.keepIn K (.ref f14) = true)
    (a15 : PySem.W.nsIn K mainGlobals "read_plain" = some (some (.ref f15))) (l15 : K.lookup f15 = some ⟨oc15, od15, .func (PySem.W.fnOf "read_plain" "read_plain" (defArgs st_read_plain) (defBody st_read_plain) (defScope st_read_plain) .none kV15 dc15 pm15 an15 cd15 ct15), sl15⟩) (c15 : PySem.W.codeIn K cd15 "read_plain" = true) (k15 : PySem.W.keepIn K (.ref f15) = true)
    (a16 : PySem.W.nsIn K mainGlobals "_law_take" = some (some (.ref f16))) (l16 : K.lookup f16 = some ⟨oc16, od16, .func (PySem.W.fnOf "_law_take" "_law_take" (defArgs st_law_take) (defBody st_law_take) (defScope st_law_take) .none kV16 dc16 pm16 an16 cd16 ct16), sl16⟩) (c16 : PySem.W.codeIn K cd16 "_law_take" = true) (k16 : PySem.W.keepIn K (.ref f16) = true)
    (a17 : PySem.W.nsIn K mainGlobals "is_piece" = some (some (.ref f17))) (l17 : K.lookup f17 = some ⟨oc17, od17, .func (PySem.W.fnOf "is_piece" "is_piece" (defArgs st_is_piece) (defBody st_is_piece) (defScope st_is_piece) .none kV17 dc17 pm17 an17 cd17 ct17), sl17⟩) (c17 : PySem.W.codeIn K cd17 "is_piece" = true) (k17 : PySem.W.keepIn K (.ref f17) = true)
    (a18 : PySem.W.nsIn K mainGlobals "read_part" = some (some (.ref f18))) (l18 : K.lookup f18 = some ⟨oc18, od18, .func (PySem.W.fnOf "read_part" "read_part" (defArgs st_read_part) (defBody st_read_part) (defScope st_read_part) .none kV18 dc18 pm18 an18 cd18 ct18), sl18⟩) (c18 : PySem.W.codeIn K cd18 "read_part" = true) (k18 : PySem.W.keepIn K (.ref f18) = true)
    (a19 : PySem.W.nsIn K mainGlobals "_law_tongue" = some (some (.ref f19))) (l19 : K.lookup f19 = some ⟨oc19, od19, .func (PySem.W.fnOf "_law_tongue" "_law_tongue" (defArgs st_law_tongue) (defBody st_law_tongue) (defScope st_law_tongue) .none kV19 dc19 pm19 an19 cd19 ct19), sl19⟩) (c19 : PySem.W.codeIn K cd19 "_law_tongue" = true) (k19 : PySem.W.keepIn K (.ref f19) = true)
    (a20 : PySem.W.nsIn K mainGlobals "_law_piece" = some (some (.ref f20))) (l20 : K.lookup f20 = some ⟨oc20, od20, .func (PySem.W.fnOf "_law_piece" "_law_piece" (defArgs st_law_piece) (defBody st_law_piece) (defScope st_law_piece) .none kV20 dc20 pm20 an20 cd20 ct20), sl20⟩) (c20 : PySem.W.codeIn K cd20 "_law_piece" = true) (k20 : PySem.W.keepIn K (.ref f20) = true)
    (a21 : PySem.W.nsIn K mainGlobals "fits" = some (some (.ref f21))) (l21 : K.lookup f21 = some ⟨oc21, od21, .func (PySem.W.fnOf "fits" "fits" (defArgs st_fits) (defBody st_fits) (defScope st_fits) .none kV21 dc21 pm21 an21 cd21 ct21), sl21⟩) (c21 : PySem.W.codeIn K cd21 "fits" = true) (k21 : PySem.W.keepIn K (.ref f21) = true)
    (a22 : PySem.W.nsIn K mainGlobals "_law_any_tongue" = some (some (.ref f22))) (l22 : K.lookup f22 = some ⟨oc22, od22, .func (PySem.W.fnOf "_law_any_tongue" "_law_any_tongue" (defArgs st_law_any_tongue) (defBody st_law_any_tongue) (defScope st_law_any_tongue) .none kV22 dc22 pm22 an22 cd22 ct22), sl22⟩) (c22 : PySem.W.codeIn K cd22 "_law_any_tongue" = true) (k22 : PySem.W.keepIn K (.ref f22) = true)
    (a23 : PySem.W.nsIn K mainGlobals "_law_plain" = some (some (.ref f23))) (l23 : K.lookup f23 = some ⟨oc23, od23, .func (PySem.W.fnOf "_law_plain" "_law_plain" (defArgs st_law_plain) (defBody st_law_plain) (defScope st_law_plain) .none kV23 dc23 pm23 an23 cd23 ct23), sl23⟩) (c23 : PySem.W.codeIn K cd23 "_law_plain" = true) (k23 : PySem.W.keepIn K (.ref f23) = true)
    (a24 : PySem.W.nsIn K mainGlobals "is_formed" = some (some (.ref f24))) (l24 : K.lookup f24 = some ⟨oc24, od24, .func (PySem.W.fnOf "is_formed" "is_formed" (defArgs st_is_formed) (defBody st_is_formed) (defScope st_is_formed) .none kV24 dc24 pm24 an24 cd24 ct24), sl24⟩) (c24 : PySem.W.codeIn K cd24 "is_formed" = true) (k24 : PySem.W.keepIn K (.ref f24) = true)
    (a25 : PySem.W.nsIn K mainGlobals "_law_sentence" = some (some (.ref f25))) (l25 : K.lookup f25 = some ⟨oc25, od25, .func (PySem.W.fnOf "_law_sentence" "_law_sentence" (defArgs st_law_sentence) (defBody st_law_sentence) (defScope st_law_sentence) .none kV25 dc25 pm25 an25 cd25 ct25), sl25⟩) (c25 : PySem.W.codeIn K cd25 "_law_sentence" = true) (k25 : PySem.W.keepIn K (.ref f25) = true)
    (a26 : PySem.W.nsIn K mainGlobals "is_sentence" = some (some (.ref f26))) (l26 : K.lookup f26 = some ⟨oc26, od26, .func (PySem.W.fnOf "is_sentence" "is_sentence" (defArgs st_is_sentence) (defBody st_is_sentence) (defScope st_is_sentence) .none kV26 dc26 pm26 an26 cd26 ct26), sl26⟩) (c26 : PySem.W.codeIn K cd26 "is_sentence" = true) (k26 : PySem.W.keepIn K (.ref f26) = true)
    (a27 : PySem.W.nsIn K mainGlobals "is_rule" = some (some (.ref f27))) (l27 : K.lookup f27 = some ⟨oc27, od27, .func (PySem.W.fnOf "is_rule" "is_rule" (defArgs st_is_rule) (defBody st_is_rule) (defScope st_is_rule) .none kV27 dc27 pm27 an27 cd27 ct27), sl27⟩) (c27 : PySem.W.codeIn K cd27 "is_rule" = true) (k27 : PySem.W.keepIn K (.ref f27) = true)
    (a28 : PySem.W.nsIn K mainGlobals "show_rule" = some (some (.ref f28))) (l28 : K.lookup f28 = some ⟨oc28, od28, .func (PySem.W.fnOf "show_rule" "show_rule" (defArgs st_show_rule) (defBody st_show_rule) (defScope st_show_rule) .none kV28 dc28 pm28 an28 cd28 ct28), sl28⟩) (c28 : PySem.W.codeIn K cd28 "show_rule" = true) (k28 : PySem.W.keepIn K (.ref f28) = true)
    (a29 : PySem.W.nsIn K mainGlobals "_law_text" = some (some (.ref f29))) (l29 : K.lookup f29 = some ⟨oc29, od29, .func (PySem.W.fnOf "_law_text" "_law_text" (defArgs st_law_text) (defBody st_law_text) (defScope st_law_text) .none kV29 dc29 pm29 an29 cd29 ct29), sl29⟩) (c29 : PySem.W.codeIn K cd29 "_law_text" = true) (k29 : PySem.W.keepIn K (.ref f29) = true)
    (a30 : PySem.W.nsIn K mainGlobals "read_sentence" = some (some (.ref f30))) (l30 : K.lookup f30 = some ⟨oc30, od30, .func (PySem.W.fnOf "read_sentence" "read_sentence" (defArgs st_read_sentence) (defBody st_read_sentence) (defScope st_read_sentence) .none kV30 dc30 pm30 an30 cd30 ct30), sl30⟩) (c30 : PySem.W.codeIn K cd30 "read_sentence" = true) (k30 : PySem.W.keepIn K (.ref f30) = true)
    (a31 : PySem.W.nsIn K mainGlobals "read_rule" = some (some (.ref f31))) (l31 : K.lookup f31 = some ⟨oc31, od31, .func (PySem.W.fnOf "read_rule" "read_rule" (defArgs st_read_rule) (defBody st_read_rule) (defScope st_read_rule) .none kV31 dc31 pm31 an31 cd31 ct31), sl31⟩) (c31 : PySem.W.codeIn K cd31 "read_rule" = true) (k31 : PySem.W.keepIn K (.ref f31) = true)
    (a32 : PySem.W.nsIn K mainGlobals "_law_rule" = some (some (.ref f32))) (l32 : K.lookup f32 = some ⟨oc32, od32, .func (PySem.W.fnOf "_law_rule" "_law_rule" (defArgs st_law_rule) (defBody st_law_rule) (defScope st_law_rule) .none kV32 dc32 pm32 an32 cd32 ct32), sl32⟩) (c32 : PySem.W.codeIn K cd32 "_law_rule" = true) (k32 : PySem.W.keepIn K (.ref f32) = true)
    (a33 : PySem.W.nsIn K mainGlobals "law" = some (some (.ref f33))) (l33 : K.lookup f33 = some ⟨oc33, od33, .func (PySem.W.fnOf "law" "law" (defArgs st_law) (defBody st_law) (defScope st_law) .none kV33 dc33 pm33 an33 cd33 ct33), sl33⟩) (c33 : PySem.W.codeIn K cd33 "law" = true) (k33 : PySem.W.keepIn K (.ref f33) = true)
    (z0 : PySem.W.nsIn K mainGlobals "abs" = some none)    (z1 : PySem.W.nsIn K mainGlobals "all" = some none)    (z2 : PySem.W.nsIn K mainGlobals "bool" = some none)    (z3 : PySem.W.nsIn K mainGlobals "int" = some none)    (z4 : PySem.W.nsIn K mainGlobals "isinstance" = some none)    (z5 : PySem.W.nsIn K mainGlobals "len" = some none)    (z6 : PySem.W.nsIn K mainGlobals "list" = some none)    (z7 : PySem.W.nsIn K mainGlobals "max" = some none)    (z8 : PySem.W.nsIn K mainGlobals "min" = some none)    (z9 : PySem.W.nsIn K mainGlobals "ord" = some none)    (z10 : PySem.W.nsIn K mainGlobals "range" = some none)    (z11 : PySem.W.nsIn K mainGlobals "repr" = some none)    (z12 : PySem.W.nsIn K mainGlobals "set" = some none)    (z13 : PySem.W.nsIn K mainGlobals "str" = some none)    (z14 : PySem.W.nsIn K mainGlobals "tuple" = some none)    (z15 : PySem.W.nsIn K mainGlobals "zip" = some none)    (y0 : PySem.W.nsIn K mainGlobals "DEEPEST" = some (some (.int 4 t0)))    (y1 : PySem.W.nsIn K mainGlobals "FIRST_SIGN" = some (some (.int 33 t1)))    (y2 : PySem.W.nsIn K mainGlobals "LAST_SIGN" = some (some (.int 126 t2)))    (y3 : PySem.W.nsIn K mainGlobals "LENGTHS" = some (some (.ref dG3))) (ll3 : K.lookup dG3 = some ⟨.type "dict", none, .dict esG3 nG3, #[]⟩) (tt3 : TabI w.params esG3.toList tab_LENGTHS) (oo3 : (dG3 == sysModules) = false)    (y4 : PySem.W.nsIn K mainGlobals "MOST_DEEP" = some (some (.int 4 t4)))    (y5 : PySem.W.nsIn K mainGlobals "MOST_IN_KIND" = some (some (.int 6 t5)))    (y6 : PySem.W.nsIn K mainGlobals "MOST_KINDS" = some (some (.int 4 t6)))    (y7 : PySem.W.nsIn K mainGlobals "MOST_LOW" = some (some (.int 30 t7)))    (y8 : PySem.W.nsIn K mainGlobals "MOST_PARTS" = some (some (.int 9 t8)))    (y9 : PySem.W.nsIn K mainGlobals "MOST_PIECE" = some (some (.int 6 t9)))    (y10 : PySem.W.nsIn K mainGlobals "MOST_SENTENCES" = some (some (.int 8 t10)))    (y11 : PySem.W.nsIn K mainGlobals "MOST_SIGNS" = some (some (.int 12 t11)))    (y12 : PySem.W.nsIn K mainGlobals "NO_SIGN" = some (some (.int 37 t12)))    (y13 : PySem.W.nsIn K mainGlobals "PARTS" = some (some (.ref dG13))) (ll13 : K.lookup dG13 = some ⟨.type "dict", none, .dict esG13 nG13, #[]⟩) (tt13 : TabI w.params esG13.toList tab_PARTS) (oo13 : (dG13 == sysModules) = false) :
    ∃ fd : FuncData, (∀ (s : Shared) (v : Value), BindsTo s fd ⟨[v], []⟩ [("_law_script", v)]) ∧ ∀ base : Heap, K.In base → base.Ns mainGlobals mg → FnG l.prog w K mg base 15 fa fd ["_law_script"] (spOf K 1 s_law) := by
  have e := hfa.symm.trans (PySem.W.mg_of X G a33)
  cases e
  have F1 := fun_mk (st := st_is_whole) l1 c1 k1
  have b1 := F1.binds (ps := ["thing"]) fun _ _ _ _ _ _ us hl => match us, hl with | [_], _ => rfl
  have F2 := fun_mk (st := st_is_sign) l2 c2 k2
  have b2 := F2.binds (ps := ["thing"]) fun _ _ _ _ _ _ us hl => match us, hl with | [_], _ => rfl
  have F3 := fun_mk (st := st_signs_of) l3 c3 k3
  have b3 := F3.binds (ps := ["tongue"]) fun _ _ _ _ _ _ us hl => match us, hl with | [_], _ => rfl
  have F4 := fun_mk (st := st_parts_of) l4 c4 k4
  have b4 := F4.binds (ps := ["sentence"]) fun _ _ _ _ _ _ us hl => match us, hl with | [_], _ => rfl
  have F5 := fun_mk (st := st_show_sentence) l5 c5 k5
  have b5 := F5.binds (ps := ["sentence"]) fun _ _ _ _ _ _ us hl => match us, hl with | [_], _ => rfl
  have F6 := fun_mk (st := st_read_number) l6 c6 k6
  have b6 := F6.binds (ps := ["word"]) fun _ _ _ _ _ _ us hl => match us, hl with | [_], _ => rfl
  have F7 := fun_mk (st := st_word_there) l7 c7 k7
  have b7 := F7.binds (ps := ["words", "at"]) fun _ _ _ _ _ _ us hl => match us, hl with | [_, _], _ => rfl
  have F8 := fun_mk (st := st_law_pen) l8 c8 k8
  have b8 := F8.binds (ps := ["_law_script", "_law_first"]) fun _ _ _ _ _ _ us hl => match us, hl with | [_, _], _ => rfl
  have F9 := fun_mk (st := st_law_mixed) l9 c9 k9
  have b9 := F9.binds (ps := ["_law_cell", "_law_k"]) fun _ _ _ _ _ _ us hl => match us, hl with | [_, _], _ => rfl
  have F10 := fun_mk (st := st_law_words) l10 c10 k10
  have b10 := F10.binds (ps := ["_law_sentence_here"]) fun _ _ _ _ _ _ us hl => match us, hl with | [_], _ => rfl
  have F11 := fun_mk (st := st_law_same) l11 c11 k11
  have b11 := F11.binds (ps := ["_law_got", "_law_due"]) fun _ _ _ _ _ _ us hl => match us, hl with | [_, _], _ => rfl
  have F12 := fun_mk (st := st_is_tongue) l12 c12 k12
  have b12 := F12.binds (ps := ["thing"]) fun _ _ _ _ _ _ us hl => match us, hl with | [_], _ => rfl
  have F13 := fun_mk (st := st_has_signs) l13 c13 k13
  have b13 := F13.binds (ps := ["tongue", "text"]) fun _ _ _ _ _ _ us hl => match us, hl with | [_, _], _ => rfl
  have F14 := fun_mk (st := st_is_within) l14 c14 k14
  have b14 := F14.binds (ps := ["thing", "low", "high"]) fun _ _ _ _ _ _ us hl => match us, hl with | [_, _, _], _ => rfl
  have F15 := fun_mk (st := st_read_plain) l15 c15 k15
  have b15 := F15.binds (ps := ["words", "at"]) fun _ _ _ _ _ _ us hl => match us, hl with | [_, _], _ => rfl
  have F16 := fun_mk (st := st_law_take) l16 c16 k16
  have b16 := F16.binds (ps := ["_law_pen_here", "_law_most"]) fun _ _ _ _ _ _ us hl => match us, hl with | [_, _], _ => rfl
  have F17 := fun_mk (st := st_is_piece) l17 c17 k17
  have b17 := F17.binds (ps := ["tongue", "thing", "most"]) fun _ _ _ _ _ _ us hl => match us, hl with | [_, _, _], _ => rfl
  have F18 := fun_mk (st := st_read_part) l18 c18 k18
  have b18 := F18.binds (ps := ["words", "at", "deep"]) fun _ _ _ _ _ _ us hl => match us, hl with | [_, _, _], _ => rfl
  have F19 := fun_mk (st := st_law_tongue) l19 c19 k19
  have b19 := F19.binds (ps := ["_law_pen_here", "_law_many"]) fun _ _ _ _ _ _ us hl => match us, hl with | [_, _], _ => rfl
  have F20 := fun_mk (st := st_law_piece) l20 c20 k20
  have b20 := F20.binds (ps := ["_law_pen_here", "_law_letters", "_law_most"]) fun _ _ _ _ _ _ us hl => match us, hl with | [_, _, _], _ => rfl
  have F21 := fun_mk (st := st_fits) l21 c21 k21
  have b21 := F21.binds (ps := ["tongue", "thing"]) fun _ _ _ _ _ _ us hl => match us, hl with | [_, _], _ => rfl
  have F22 := fun_mk (st := st_law_any_tongue) l22 c22 k22
  have b22 := F22.binds (ps := ["_law_pen_here"]) fun _ _ _ _ _ _ us hl => match us, hl with | [_], _ => rfl
  have F23 := fun_mk (st := st_law_plain) l23 c23 k23
  have b23 := F23.binds (ps := ["_law_pen_here", "_law_tongue_here"]) fun _ _ _ _ _ _ us hl => match us, hl with | [_, _], _ => rfl
  have F24 := fun_mk (st := st_is_formed) l24 c24 k24
  have b24 := F24.binds (ps := ["tongue", "thing"]) fun _ _ _ _ _ _ us hl => match us, hl with | [_, _], _ => rfl
  have F25 := fun_mk (st := st_law_sentence) l25 c25 k25
  have b25 := F25.binds (ps := ["_law_pen_here", "_law_tongue_here", "_law_deep", "_law_room"]) fun _ _ _ _ _ _ us hl => match us, hl with | [_, _, _, _], _ => rfl
  have F26 := fun_mk (st := st_is_sentence) l26 c26 k26
  have b26 := F26.binds (ps := ["tongue", "thing"]) fun _ _ _ _ _ _ us hl => match us, hl with | [_, _], _ => rfl
  have F27 := fun_mk (st := st_is_rule) l27 c27 k27
  have b27 := F27.binds (ps := ["thing"]) fun _ _ _ _ _ _ us hl => match us, hl with | [_], _ => rfl
  have F28 := fun_mk (st := st_show_rule) l28 c28 k28
  have b28 := F28.binds (ps := ["rule"]) fun _ _ _ _ _ _ us hl => match us, hl with | [_], _ => rfl
  have F29 := fun_mk (st := st_law_text) l29 c29 k29
  have b29 := F29.binds (ps := ["_law_rule_here"]) fun _ _ _ _ _ _ us hl => match us, hl with | [_], _ => rfl
  have F30 := fun_mk (st := st_read_sentence) l30 c30 k30
  have b30 := F30.binds (ps := ["tongue", "text"]) fun _ _ _ _ _ _ us hl => match us, hl with | [_, _], _ => rfl
  have F31 := fun_mk (st := st_read_rule) l31 c31 k31
  have b31 := F31.binds (ps := ["text"]) fun _ _ _ _ _ _ us hl => match us, hl with | [_], _ => rfl
  have F32 := fun_mk (st := st_law_rule) l32 c32 k32
  have b32 := F32.binds (ps := ["_law_pen_here", "_law_most"]) fun _ _ _ _ _ _ us hl => match us, hl with | [_, _], _ => rfl
  have F33 := fun_mk (st := st_law) l33 c33 k33
  have b33 := F33.binds (ps := ["_law_script"]) fun _ _ _ _ _ _ us hl => match us, hl with | [_], _ => rfl
  have m_abs := PySem.W.mg_none_of X G z0
  have m_all := PySem.W.mg_none_of X G z1
  have m_bool := PySem.W.mg_none_of X G z2
  have m_int := PySem.W.mg_none_of X G z3
  have m_isinstance := PySem.W.mg_none_of X G z4
  have m_len := PySem.W.mg_none_of X G z5
  have m_list := PySem.W.mg_none_of X G z6
  have m_max := PySem.W.mg_none_of X G z7
  have m_min := PySem.W.mg_none_of X G z8
  have m_ord := PySem.W.mg_none_of X G z9
  have m_range := PySem.W.mg_none_of X G z10
  have m_repr := PySem.W.mg_none_of X G z11
  have m_set := PySem.W.mg_none_of X G z12
  have m_str := PySem.W.mg_none_of X G z13
  have m_tuple := PySem.W.mg_none_of X G z14
  have m_zip := PySem.W.mg_none_of X G z15
  have g_DEEPEST : ∃ u, mg "DEEPEST" = some u ∧ RelV (.int 4) u := ⟨_, PySem.W.mg_of X G y0, ⟨_, rfl⟩⟩
  have g_FIRST_SIGN : ∃ u, mg "FIRST_SIGN" = some u ∧ RelV (.int 33) u := ⟨_, PySem.W.mg_of X G y1, ⟨_, rfl⟩⟩
  have g_LAST_SIGN : ∃ u, mg "LAST_SIGN" = some u ∧ RelV (.int 126) u := ⟨_, PySem.W.mg_of X G y2, ⟨_, rfl⟩⟩
  have g_LENGTHS : KTab K w.params dG3 tab_LENGTHS ∧ mg "LENGTHS" = some (.ref dG3) := ⟨⟨⟨_, _, ll3, tt3⟩, oo3⟩, PySem.W.mg_of X G y3⟩
  have g_MOST_DEEP : ∃ u, mg "MOST_DEEP" = some u ∧ RelV (.int 4) u := ⟨_, PySem.W.mg_of X G y4, ⟨_, rfl⟩⟩
  have g_MOST_IN_KIND : ∃ u, mg "MOST_IN_KIND" = some u ∧ RelV (.int 6) u := ⟨_, PySem.W.mg_of X G y5, ⟨_, rfl⟩⟩
  have g_MOST_KINDS : ∃ u, mg "MOST_KINDS" = some u ∧ RelV (.int 4) u := ⟨_, PySem.W.mg_of X G y6, ⟨_, rfl⟩⟩
  have g_MOST_LOW : ∃ u, mg "MOST_LOW" = some u ∧ RelV (.int 30) u := ⟨_, PySem.W.mg_of X G y7, ⟨_, rfl⟩⟩
  have g_MOST_PARTS : ∃ u, mg "MOST_PARTS" = some u ∧ RelV (.int 9) u := ⟨_, PySem.W.mg_of X G y8, ⟨_, rfl⟩⟩
  have g_MOST_PIECE : ∃ u, mg "MOST_PIECE" = some u ∧ RelV (.int 6) u := ⟨_, PySem.W.mg_of X G y9, ⟨_, rfl⟩⟩
  have g_MOST_SENTENCES : ∃ u, mg "MOST_SENTENCES" = some u ∧ RelV (.int 8) u := ⟨_, PySem.W.mg_of X G y10, ⟨_, rfl⟩⟩
  have g_MOST_SIGNS : ∃ u, mg "MOST_SIGNS" = some u ∧ RelV (.int 12) u := ⟨_, PySem.W.mg_of X G y11, ⟨_, rfl⟩⟩
  have g_NO_SIGN : ∃ u, mg "NO_SIGN" = some u ∧ RelV (.int 37) u := ⟨_, PySem.W.mg_of X G y12, ⟨_, rfl⟩⟩
  have g_PARTS : KTab K w.params dG13 tab_PARTS ∧ mg "PARTS" = some (.ref dG13) := ⟨⟨⟨_, _, ll13, tt13⟩, oo13⟩, PySem.W.mg_of X G y13⟩
  refine ⟨PySem.W.fnOf "law" "law" (defArgs st_law) (defBody st_law) (defScope st_law) .none kV33 dc33 pm33 an33 cd33 ct33, fun s v => .of_eq rfl, fun base _ _ => ?_⟩
  have c_is_whole : Cal l.prog w K mg base 1 "is_whole" 1 s_is_whole := ok_is_whole F1 (PySem.W.mg_of X G a1) b1 m_bool m_int m_isinstance
  have c_is_sign : Cal l.prog w K mg base 1 "is_sign" 1 s_is_sign := ok_is_sign F2 (PySem.W.mg_of X G a2) b2 m_len m_ord g_FIRST_SIGN g_LAST_SIGN g_NO_SIGN
  have c_signs_of : Cal l.prog w K mg base 1 "signs_of" 1 s_signs_of := ok_signs_of F3 (PySem.W.mg_of X G a3) b3 
  have c_parts_of : Cal l.prog w K mg base 1 "parts_of" 1 s_parts_of := ok_parts_of F4 (PySem.W.mg_of X G a4) b4 m_list
  have c_show_sentence : Cal l.prog w K mg base 9 "show_sentence" 1 (s_show_sentence 8) := ok_show_sentence F5 (PySem.W.mg_of X G a5) b5 m_isinstance m_str m_tuple 8
  have c_read_number : Cal l.prog w K mg base 1 "read_number" 1 s_read_number := ok_read_number F6 (PySem.W.mg_of X G a6) b6 m_all m_int m_len
  have c_word_there : Cal l.prog w K mg base 1 "word_there" 2 s_word_there := ok_word_there F7 (PySem.W.mg_of X G a7) b7 m_len
  have c_law_pen : Cal l.prog w K mg base 1 "_law_pen" 2 s_law_pen := ok_law_pen F8 (PySem.W.mg_of X G a8) b8 
  have c_law_mixed : Cal l.prog w K mg base 1 "_law_mixed" 2 s_law_mixed := ok_law_mixed F9 (PySem.W.mg_of X G a9) b9 
  have c_law_words : Cal l.prog w K mg base 9 "_law_words" 1 (s_law_words 8) := ok_law_words F10 (PySem.W.mg_of X G a10) b10 m_isinstance m_str m_tuple 8
  have c_law_same : Cal l.prog w K mg base 9 "_law_same" 2 (s_law_same 8) := ok_law_same F11 (PySem.W.mg_of X G a11) b11 m_all m_bool m_int m_isinstance m_len m_list m_repr m_str m_tuple m_zip 8
  have c_is_tongue : Cal l.prog w K mg base 2 "is_tongue" 1 s_is_tongue := ok_is_tongue F12 (PySem.W.mg_of X G a12) b12 m_all m_isinstance m_len m_set m_str m_tuple g_MOST_IN_KIND g_MOST_KINDS g_MOST_SIGNS c_is_sign
  have c_has_signs : Cal l.prog w K mg base 2 "has_signs" 2 s_has_signs := ok_has_signs F13 (PySem.W.mg_of X G a13) b13 m_all c_signs_of
  have c_is_within : Cal l.prog w K mg base 2 "is_within" 3 s_is_within := ok_is_within F14 (PySem.W.mg_of X G a14) b14 c_is_whole
  have c_read_plain : Cal l.prog w K mg base 2 "read_plain" 2 s_read_plain := ok_read_plain F15 (PySem.W.mg_of X G a15) b15 c_read_number c_word_there
  have c_law_take : Cal l.prog w K mg base 2 "_law_take" 2 s_law_take := ok_law_take F16 (PySem.W.mg_of X G a16) b16 m_abs m_len c_law_mixed
  have c_is_piece : Cal l.prog w K mg base 3 "is_piece" 3 s_is_piece := ok_is_piece F17 (PySem.W.mg_of X G a17) b17 m_isinstance m_len m_str c_has_signs
  have c_read_part : Cal l.prog w K mg base 11 "read_part" 3 (s_read_part 8) := ok_read_part F18 (PySem.W.mg_of X G a18) b18 m_range m_tuple g_DEEPEST g_PARTS c_word_there c_read_plain 8
  have c_law_tongue : Cal l.prog w K mg base 3 "_law_tongue" 2 s_law_tongue := ok_law_tongue F19 (PySem.W.mg_of X G a19) b19 m_len m_list m_max m_min m_range m_tuple c_law_take
  have c_law_piece : Cal l.prog w K mg base 3 "_law_piece" 3 s_law_piece := ok_law_piece F20 (PySem.W.mg_of X G a20) b20 m_len m_range c_law_take
  have c_fits : Cal l.prog w K mg base 4 "fits" 2 s_fits := ok_fits F21 (PySem.W.mg_of X G a21) b21 m_len m_set g_MOST_LOW g_MOST_PIECE c_is_within c_is_piece
  have c_law_any_tongue : Cal l.prog w K mg base 4 "_law_any_tongue" 1 s_law_any_tongue := ok_law_any_tongue F22 (PySem.W.mg_of X G a22) b22 c_law_take c_law_tongue
  have c_law_plain : Cal l.prog w K mg base 4 "_law_plain" 2 s_law_plain := ok_law_plain F23 (PySem.W.mg_of X G a23) b23 m_int m_len m_list m_min m_range c_law_take c_law_piece
  have c_is_formed : Cal l.prog w K mg base 5 "is_formed" 2 s_is_formed := ok_is_formed F24 (PySem.W.mg_of X G a24) b24 m_isinstance m_len m_str m_tuple g_LENGTHS c_fits
  have c_law_sentence : Cal l.prog w K mg base 13 "_law_sentence" 4 (s_law_sentence 8) := ok_law_sentence F25 (PySem.W.mg_of X G a25) b25 c_law_take c_law_plain 8
  have c_is_sentence : Cal l.prog w K mg base 6 "is_sentence" 2 s_is_sentence := ok_is_sentence F26 (PySem.W.mg_of X G a26) b26 m_all m_len m_range g_MOST_DEEP g_MOST_PARTS c_parts_of c_is_formed
  have c_is_rule : Cal l.prog w K mg base 7 "is_rule" 1 s_is_rule := ok_is_rule F27 (PySem.W.mg_of X G a27) b27 m_all m_isinstance m_len m_tuple g_MOST_SENTENCES c_is_tongue c_is_sentence
  have c_show_rule : Cal l.prog w K mg base 10 "show_rule" 1 s_show_rule := ok_show_rule F28 (PySem.W.mg_of X G a28) b28 c_show_sentence
  have c_law_text : Cal l.prog w K mg base 10 "_law_text" 1 s_law_text := ok_law_text F29 (PySem.W.mg_of X G a29) b29 m_list c_law_words
  have c_read_sentence : Cal l.prog w K mg base 12 "read_sentence" 2 s_read_sentence := ok_read_sentence F30 (PySem.W.mg_of X G a30) b30 m_len c_read_part c_is_sentence
  have c_read_rule : Cal l.prog w K mg base 13 "read_rule" 1 s_read_rule := ok_read_rule F31 (PySem.W.mg_of X G a31) b31 m_isinstance m_len m_str m_tuple c_is_tongue c_is_rule c_read_sentence
  have c_law_rule : Cal l.prog w K mg base 14 "_law_rule" 2 s_law_rule := ok_law_rule F32 (PySem.W.mg_of X G a32) b32 m_range m_tuple c_law_take c_law_any_tongue c_law_sentence
  exact okF_law F33 m_isinstance m_str c_law_pen c_law_words c_law_same c_show_rule c_law_text c_read_rule c_law_rule

end A_k56
open PySem PySem.W PyProof.Rows
set_option maxHeartbeats 0 in
theorem PySem.Challenge.cw_wordrules_k56_rule_texts_holds : PySem.Challenge.rw_wordrules_k56_rule_texts.Holds := by
  w_on; o_law; k_head; (case hw => w_witness2)
  k_fill
  refine AL.walk_G (l := PySem.Challenge.rw_wordrules_k56_rule_texts) (n := 63) (k := 15) (x := "_law_script") (sp := fun w => AL.spOf _ 1 A_k56.s_law) rfl (by decide) rfl ⟨rfl, by decide, by decide⟩ (fun w h Y => PySem.W.kIn_of Y) ?F (fun _ H a ns hl _ hS => AL.law_sp A_k56.law_true _ H a ns hl hS)
  case F =>
    intro w mg fa h KX G hmg
    refine' A_k56.all_mk KX G hmg ?a1 ?l1 ?c1 ?k1 ?a2 ?l2 ?c2 ?k2 ?a3 ?l3 ?c3 ?k3 ?a4 ?l4 ?c4 ?k4 ?a5 ?l5 ?c5 ?k5 ?a6 ?l6 ?c6 ?k6 ?a7 ?l7 ?c7 ?k7 ?a8 ?l8 ?c8 ?k8 ?a9 ?l9 ?c9 ?k9 ?a10 ?l10 ?c10 ?k10 ?a11 ?l11 ?c11 ?k11 ?a12 ?l12 ?c12 ?k12 ?a13 ?l13 ?c13 ?k13 ?a14 ?l14 ?c14 ?k14 ?a15 ?l15 ?c15 ?k15 ?a16 ?l16 ?c16 ?k16 ?a17 ?l17 ?c17 ?k17 ?a18 ?l18 ?c18 ?k18 ?a19 ?l19 ?c19 ?k19 ?a20 ?l20 ?c20 ?k20 ?a21 ?l21 ?c21 ?k21 ?a22 ?l22 ?c22 ?k22 ?a23 ?l23 ?c23 ?k23 ?a24 ?l24 ?c24 ?k24 ?a25 ?l25 ?c25 ?k25 ?a26 ?l26 ?c26 ?k26 ?a27 ?l27 ?c27 ?k27 ?a28 ?l28 ?c28 ?k28 ?a29 ?l29 ?c29 ?k29 ?a30 ?l30 ?c30 ?k30 ?a31 ?l31 ?c31 ?k31 ?a32 ?l32 ?c32 ?k32 ?a33 ?l33 ?c33 ?k33 ?z0 ?z1 ?z2 ?z3 ?z4 ?z5 ?z6 ?z7 ?z8 ?z9 ?z10 ?z11 ?z12 ?z13 ?z14 ?z15 ?y0 ?y1 ?y2 ?y3 ?ll3 ?tt3 ?oo3 ?y4 ?y5 ?y6 ?y7 ?y8 ?y9 ?y10 ?y11 ?y12 ?y13 ?ll13 ?tt13 ?oo13
    (case a1 => k_is); (case l1 => k_is); (case c1 => k_is); (case k1 => k_is); (case a2 => k_is); (case l2 => k_is); (case c2 => k_is); (case k2 => k_is)
    (case a3 => k_is); (case l3 => k_is); (case c3 => k_is); (case k3 => k_is); (case a4 => k_is); (case l4 => k_is); (case c4 => k_is); (case k4 => k_is)
    (case a5 => k_is); (case l5 => k_is); (case c5 => k_is); (case k5 => k_is); (case a6 => k_is); (case l6 => k_is); (case c6 => k_is); (case k6 => k_is)
    (case a7 => k_is); (case l7 => k_is); (case c7 => k_is); (case k7 => k_is); (case a8 => k_is); (case l8 => k_is); (case c8 => k_is); (case k8 => k_is)
    (case a9 => k_is); (case l9 => k_is); (case c9 => k_is); (case k9 => k_is); (case a10 => k_is); (case l10 => k_is); (case c10 => k_is); (case k10 => k_is)
    (case a11 => k_is); (case l11 => k_is); (case c11 => k_is); (case k11 => k_is); (case a12 => k_is); (case l12 => k_is); (case c12 => k_is); (case k12 => k_is)
    (case a13 => k_is); (case l13 => k_is); (case c13 => k_is); (case k13 => k_is); (case a14 => k_is); (case l14 => k_is); (case c14 => k_is); (case k14 => k_is)
    (case a15 => k_is); (case l15 => k_is); (case c15 => k_is); (case k15 => k_is); (case a16 => k_is); (case l16 => k_is); (case c16 => k_is); (case k16 => k_is)
    (case a17 => k_is); (case l17 => k_is); (case c17 => k_is); (case k17 => k_is); (case a18 => k_is); (case l18 => k_is); (case c18 => k_is); (case k18 => k_is)
    (case a19 => k_is); (case l19 => k_is); (case c19 => k_is); (case k19 => k_is); (case a20 => k_is); (case l20 => k_is); (case c20 => k_is); (case k20 => k_is)
    (case a21 => k_is); (case l21 => k_is); (case c21 => k_is); (case k21 => k_is); (case a22 => k_is); (case l22 => k_is); (case c22 => k_is); (case k22 => k_is)
    (case a23 => k_is); (case l23 => k_is); (case c23 => k_is); (case k23 => k_is); (case a24 => k_is); (case l24 => k_is); (case c24 => k_is); (case k24 => k_is)
    (case a25 => k_is); (case l25 => k_is); (case c25 => k_is); (case k25 => k_is); (case a26 => k_is); (case l26 => k_is); (case c26 => k_is); (case k26 => k_is)
    (case a27 => k_is); (case l27 => k_is); (case c27 => k_is); (case k27 => k_is); (case a28 => k_is); (case l28 => k_is); (case c28 => k_is); (case k28 => k_is)
    (case a29 => k_is); (case l29 => k_is); (case c29 => k_is); (case k29 => k_is); (case a30 => k_is); (case l30 => k_is); (case c30 => k_is); (case k30 => k_is)
    (case a31 => k_is); (case l31 => k_is); (case c31 => k_is); (case k31 => k_is); (case a32 => k_is); (case l32 => k_is); (case c32 => k_is); (case k32 => k_is)
    (case a33 => k_is); (case l33 => k_is); (case c33 => k_is); (case k33 => k_is); (case z0 => k_is); (case z1 => k_is); (case z2 => k_is); (case z3 => k_is)
    (case z4 => k_is); (case z5 => k_is); (case z6 => k_is); (case z7 => k_is); (case z8 => k_is); (case z9 => k_is); (case z10 => k_is); (case z11 => k_is)
    (case z12 => k_is); (case z13 => k_is); (case z14 => k_is); (case z15 => k_is); (case y0 => k_is); (case y1 => k_is); (case y2 => k_is); (case y3 => k_is)
    (case ll3 => k_is); (case tt3 => repeat (first | exact True.intro | refine And.intro ⟨_, _, rfl, rfl, rfl⟩ ?_)); (case oo3 => decide); (case y4 => k_is); (case y5 => k_is); (case y6 => k_is); (case y7 => k_is); (case y8 => k_is)
    (case y9 => k_is); (case y10 => k_is); (case y11 => k_is); (case y12 => k_is); (case y13 => k_is); (case ll13 => k_is); (case tt13 => repeat (first | exact True.intro | refine And.intro ⟨_, _, rfl, rfl, rfl⟩ ?_)); (case oo13 => decide)
