import PyProof.Rows.All
import Wide.All
import OpenK.AllK
import Wide.FinOn
import HandS.ForMost
import HandS.IsInst
import HandS.Flow
import HandS.Style
import HandS.TupAny
import HandS.Codes
import HandS.Wide
import HandS.Deep
import HandS.Zip
import HandS.Dict
import HandS.Words
import HandS.Text
import HandS.More
import PyProof.ListStr
import KE.DatumOrd
import HandS.List
import HandS.Replace
import PyProof.Rows.StrRev
import PyProof.Rows.StrTemp
import PyProof.SliceStr2
import PySem.Challenge.RW_wordrules_k21_tables_told
set_option Elab.async false
set_option linter.all false
set_option maxRecDepth 100000
set_option maxHeartbeats 4000000
/-! The A-layer: data as trees, what is mutated as cells; each reading of the hand layer has an abstract program that it follows. -/
namespace AL
open PySem PySem.Spec L2

inductive D where
  | non | bl (b : Bool) | int (i : Int) | str (x : Str) | lst (xs : List D) | tup (xs : List D) | dk (kvs : List (Key × D)) | scr (ns : List Int) | ce (a : Addr)
  deriving Inhabited
inductive Cell where
  | lst (xs : List D) | dk (kvs : List (Key × D)) | dt (kvs : List (List Key × D))
abbrev AH := Addr → Option Cell
def put (C : AH) (a : Addr) (c : Cell) : AH := fun b => if b = a then some c else C b
def del (C : AH) (a : Addr) : AH := fun b => if b = a then none else C b
@[simp] theorem put_same {C : AH} {a : Addr} {c : Cell} : put C a c a = some c := by unfold put; rw [if_pos rfl]
theorem put_ne {C : AH} {a b : Addr} {c : Cell} (h : b ≠ a) : put C a c b = C b := by unfold put; rw [if_neg h]
@[simp] theorem put_put {C : AH} {a : Addr} {c d : Cell} : put (put C a c) a d = put C a d := by
  funext b; unfold put; split <;> rfl

/-! ### heaps that grow -/
def Ex (H H' : Hp) : Prop := ∀ a o, H a = some o → H' a = some o
theorem Ex.refl (H : Hp) : Ex H H := fun _ _ h => h
theorem Ex.trans {H H1 H2 : Hp} (a : Ex H H1) (b : Ex H1 H2) : Ex H H2 := fun x o h => b x o (a x o h)
theorem Ex.new {H : Hp} {p : Addr} {o : HO} (h : H p = none) : Ex H (upd H p o) := fun a u e => by
  rw [upd_ne (ne_of_none e h)]
  exact e
theorem Ex.l {K : PySem.W.Frag} {H H' : Hp} {a : Addr} {xs : List V} (e : Ex H H') (h : SqL K H a xs) : SqL K H' a xs := by
  rcases h with (h | ⟨o, h⟩) | h
  · exact Or.inl (Or.inl (e a _ h))
  · exact Or.inl (Or.inr ⟨o, e a _ h⟩)
  · exact Or.inr h
theorem Ex.back {H H' : Hp} {p : Addr} (e : Ex H H') (h : H' p = none) : H p = none := by
  cases h1 : H p with
  | none => rfl
  | some o => rw [e p o h1] at h; cases h

/-! ### trees in a heap -/
mutual
inductive Rep (K : PySem.W.Frag) (F : Hp) : V → D → Prop
  | non : Rep K F .non .non
  | bl (b : Bool) : Rep K F (.bl b) (.bl b)
  | int (i : Int) : Rep K F (.int i) (.int i)
  | str (x : Str) : Rep K F (.str x) (.str x)
  | lst {a : Addr} {xs : List V} {ds : List D} : F a = some (.lst xs) → RepL K F xs ds → Rep K F (.ref a) (.lst ds)
  | tup {a : Addr} {xs : List V} {ds : List D} : F a = some (.tup xs) → RepL K F xs ds → Rep K F (.ref a) (.tup ds)
  | dk {a : Addr} {kvs : List (Key × V)} {es : List (Key × D)} : F a = some (.dK kvs) → RepK K F kvs es → Rep K F (.ref a) (.dk es)
  | scr {a : Addr} {ns : List Int} : SqL K F a (ns.map V.int) → Rep K F (.ref a) (.scr ns)
  | ce (a : Addr) : Rep K F (.ref a) (.ce a)
inductive RepL (K : PySem.W.Frag) (F : Hp) : List V → List D → Prop
  | nil : RepL K F [] []
  | cons {v : V} {vs : List V} {d : D} {ds : List D} : Rep K F v d → RepL K F vs ds → RepL K F (v :: vs) (d :: ds)
inductive RepK (K : PySem.W.Frag) (F : Hp) : List (Key × V) → List (Key × D) → Prop
  | nil : RepK K F [] []
  | cons {k : Key} {v : V} {vs : List (Key × V)} {d : D} {ds : List (Key × D)} : Rep K F v d → RepK K F vs ds → RepK K F ((k, v) :: vs) ((k, d) :: ds)
end
mutual
theorem Rep.mono {K : PySem.W.Frag} {F F' : Hp} (e : Ex F F') : ∀ {v : V} {d : D}, Rep K F v d → Rep K F' v d
  | _, _, .non => .non
  | _, _, .bl b => .bl b
  | _, _, .int i => .int i
  | _, _, .str x => .str x
  | _, _, .lst h r => .lst (e _ _ h) (RepL.mono e r)
  | _, _, .tup h r => .tup (e _ _ h) (RepL.mono e r)
  | _, _, .dk h r => .dk (e _ _ h) (RepK.mono e r)
  | _, _, .scr h => .scr (e.l h)
  | _, _, .ce a => .ce a
theorem RepL.mono {K : PySem.W.Frag} {F F' : Hp} (e : Ex F F') : ∀ {vs : List V} {ds : List D}, RepL K F vs ds → RepL K F' vs ds
  | _, _, .nil => .nil
  | _, _, .cons r t => .cons (Rep.mono e r) (RepL.mono e t)
theorem RepK.mono {K : PySem.W.Frag} {F F' : Hp} (e : Ex F F') : ∀ {vs : List (Key × V)} {ds : List (Key × D)}, RepK K F vs ds → RepK K F' vs ds
  | _, _, .nil => .nil
  | _, _, .cons r t => .cons (Rep.mono e r) (RepK.mono e t)
end
section
variable {K : PySem.W.Frag} {F F' : Hp}
theorem RepL.length : ∀ {vs : List V} {ds : List D}, RepL K F vs ds → vs.length = ds.length
  | _, _, .nil => rfl
  | _, _, .cons _ t => by rw [List.length_cons, List.length_cons, RepL.length t]
theorem RepL.get : ∀ {vs : List V} {ds : List D} {i : Nat} {v : V}, RepL K F vs ds → vs[i]? = some v → ∃ d, ds[i]? = some d ∧ Rep K F v d
  | _, _, _, _, .nil, e => by simp at e
  | _, _, 0, _, .cons r _, e => by simp at e; subst e; exact ⟨_, rfl, r⟩
  | _, _, i + 1, v, .cons _ t, e => by
    obtain ⟨u, h1, h2⟩ := RepL.get (i := i) (v := v) t (by simpa using e)
    exact ⟨u, by simpa using h1, h2⟩
theorem RepL.getD : ∀ {vs : List V} {ds : List D} {i : Nat} {d : D}, RepL K F vs ds → ds[i]? = some d → ∃ v, vs[i]? = some v ∧ Rep K F v d
  | _, _, _, _, .nil, e => by simp at e
  | _, _, 0, _, .cons r _, e => by simp at e; subst e; exact ⟨_, rfl, r⟩
  | _, _, i + 1, v, .cons _ t, e => by
    obtain ⟨u, h1, h2⟩ := RepL.getD (i := i) (d := v) t (by simpa using e)
    exact ⟨u, by simpa using h1, h2⟩
theorem RepL.set {x : V} {u : D} (r : Rep K F x u) : ∀ {xs : List V} {us : List D} (i : Nat), RepL K F xs us → RepL K F (xs.set i x) (us.set i u)
  | _, _, _, .nil => .nil
  | _, _, 0, .cons _ t => .cons r t
  | _, _, i + 1, .cons q t => .cons q (RepL.set r i t)
theorem RepL.append : ∀ {xs ys : List V} {us ws : List D}, RepL K F xs us → RepL K F ys ws → RepL K F (xs ++ ys) (us ++ ws)
  | _, _, _, _, .nil, s => s
  | _, _, _, _, .cons r t, s => .cons r (RepL.append t s)
theorem RepL.take : ∀ {xs : List V} {us : List D} (n : Nat), RepL K F xs us → RepL K F (xs.take n) (us.take n)
  | _, _, 0, _ => .nil
  | _, _, _ + 1, .nil => .nil
  | _, _, n + 1, .cons r t => .cons r (RepL.take n t)
theorem RepL.drop : ∀ {xs : List V} {us : List D} (n : Nat), RepL K F xs us → RepL K F (xs.drop n) (us.drop n)
  | _, _, 0, r => r
  | _, _, _ + 1, .nil => .nil
  | _, _, n + 1, .cons _ t => RepL.drop n t
theorem RepL.reverse : ∀ {xs : List V} {us : List D}, RepL K F xs us → RepL K F xs.reverse us.reverse
  | _, _, .nil => .nil
  | _, _, .cons r t => by
    rw [List.reverse_cons, List.reverse_cons]
    exact RepL.append (RepL.reverse t) (.cons r .nil)
theorem RepL.dropLast {xs : List V} {us : List D} (h : RepL K F xs us) : RepL K F xs.dropLast us.dropLast := by
  rw [List.dropLast_eq_take, List.dropLast_eq_take, h.length]
  exact h.take _
theorem RepL.erase : ∀ {xs : List V} {us : List D} (i : Nat), RepL K F xs us → RepL K F (xs.eraseIdx i) (us.eraseIdx i)
  | _, _, _, .nil => .nil
  | _, _, 0, .cons _ t => t
  | _, _, i + 1, .cons q t => .cons q (RepL.erase i t)
theorem RepL.ints : ∀ ns : List Int, RepL K F (ns.map V.int) (ns.map D.int)
  | [] => .nil
  | n :: ns => .cons (.int n) (RepL.ints ns)
theorem RepL.strs : ∀ ns : List Str, RepL K F (ns.map V.str) (ns.map D.str)
  | [] => .nil
  | n :: ns => .cons (.str n) (RepL.strs ns)
theorem RepL.ofInts : ∀ {xs : List V} {ns : List Int}, RepL K F xs (ns.map D.int) → xs = ns.map V.int
  | _, [], .nil => rfl
  | _, n :: ns, .cons (.int _) t => by rw [List.map_cons, RepL.ofInts t]
theorem RepL.ofStrs : ∀ {xs : List V} {ns : List Str}, RepL K F xs (ns.map D.str) → xs = ns.map V.str
  | _, [], .nil => rfl
  | _, n :: ns, .cons (.str _) t => by rw [List.map_cons, RepL.ofStrs t]
theorem RepL.ofBls : ∀ {xs : List V} {ns : List Bool}, RepL K F xs (ns.map D.bl) → xs = ns.map V.bl
  | _, [], .nil => rfl
  | _, n :: ns, .cons (.bl _) t => by rw [List.map_cons, RepL.ofBls t]
end

/-- what a cell holds -/
inductive CellC (K : PySem.W.Frag) (F : Hp) : HO → Cell → Prop
  | lst {xs : List V} {ds : List D} : RepL K F xs ds → CellC K F (.lst xs) (.lst ds)
  | dk {kvs : List (Key × V)} {es : List (Key × D)} : RepK K F kvs es → CellC K F (.dK kvs) (.dk es)
theorem CellC.mono {K : PySem.W.Frag} {F F' : Hp} (e : Ex F F') {o : HO} {c : Cell} : CellC K F o c → CellC K F' o c
  | .lst r => .lst (r.mono e)
  | .dk r => .dk (r.mono e)
/-- F: what is known for good; C: the cells; R: what is kept aside -/
structure Sat (K : PySem.W.Frag) (F : Hp) (C : AH) (R H : Hp) : Prop where
  ex : Ex F H
  cell : ∀ p c, C p = some c → F p = none ∧ ∃ o, H p = some o ∧ CellC K F o c
  priv : ∀ p o, R p = some o → F p = none ∧ C p = none ∧ H p = some o
section
variable {K : PySem.W.Frag} {F F' : Hp} {C : AH} {R H : Hp} {p : Addr}
theorem Sat.freeF (S : Sat K F C R H) (h : H p = none) : F p = none := S.ex.back h
theorem Sat.freeC (S : Sat K F C R H) (h : H p = none) : C p = none := by
  cases q : C p with
  | none => rfl
  | some c => obtain ⟨_, o, e, _⟩ := S.cell p c q; rw [h] at e; cases e
theorem Sat.freeR (S : Sat K F C R H) (h : H p = none) : R p = none := by
  cases q : R p with
  | none => rfl
  | some c => have e := (S.priv p c q).2.2; rw [h] at e; cases e
/-- a new object, known for good -/
theorem Sat.newF (S : Sat K F C R H) (h : H p = none) (o : HO) : Sat K (upd F p o) C R (upd H p o) := by
  have hF := S.freeF h
  refine ⟨fun a u e => ?_, fun q c e => ?_, fun q u e => ?_⟩
  · by_cases ha : a = p
    · subst ha; rw [upd_same] at e ⊢; exact e
    · rw [upd_ne ha] at e ⊢; exact S.ex _ _ e
  · obtain ⟨h1, u, h2, h3⟩ := S.cell q c e
    have hq : q ≠ p := ne_of_none h2 h
    exact ⟨by rw [upd_ne hq]; exact h1, u, by rw [upd_ne hq]; exact h2, h3.mono (Ex.new hF)⟩
  · obtain ⟨h1, h2, h3⟩ := S.priv q u e
    have hq : q ≠ p := ne_of_none h3 h
    exact ⟨by rw [upd_ne hq]; exact h1, h2, by rw [upd_ne hq]; exact h3⟩
/-- a cell is made, or changed -/
theorem Sat.setC (S : Sat K F C R H) (hF : F p = none) (hR : R p = none) {o : HO} {c : Cell} (h : CellC K F o c) : Sat K F (put C p c) R (upd H p o) := by
  refine ⟨fun a u e => ?_, fun q d e => ?_, fun q u e => ?_⟩
  · rw [upd_ne (ne_of_none e hF)]; exact S.ex _ _ e
  · by_cases hq : q = p
    · subst hq; rw [put_same] at e; cases e; exact ⟨hF, o, upd_same, h⟩
    · rw [put_ne hq] at e
      obtain ⟨h1, u, h2, h3⟩ := S.cell q d e
      exact ⟨h1, u, by rw [upd_ne hq]; exact h2, h3⟩
  · have hq : q ≠ p := ne_of_none e hR
    obtain ⟨h1, h2, h3⟩ := S.priv q u e
    exact ⟨h1, by rw [put_ne hq]; exact h2, by rw [upd_ne hq]; exact h3⟩
theorem Sat.newC (S : Sat K F C R H) (h : H p = none) {o : HO} {c : Cell} (hc : CellC K F o c) : Sat K F (put C p c) R (upd H p o) := S.setC (S.freeF h) (S.freeR h) hc
theorem Sat.mutC (S : Sat K F C R H) {c0 : Cell} (h : C p = some c0) {o : HO} {c : Cell} (hc : CellC K F o c) : Sat K F (put C p c) R (upd H p o) := by
  refine S.setC (S.cell p c0 h).1 ?_ hc
  cases q : R p with
  | none => rfl
  | some u => have e := (S.priv p u q).2.1; rw [h] at e; cases e
/-- kept aside -/
theorem Sat.setR (S : Sat K F C R H) (hF : F p = none) (hC : C p = none) (o : HO) : Sat K F C (upd R p o) (upd H p o) := by
  refine ⟨fun a u e => ?_, fun q d e => ?_, fun q u e => ?_⟩
  · rw [upd_ne (ne_of_none e hF)]; exact S.ex _ _ e
  · have hq : q ≠ p := fun z => by rw [z, hC] at e; cases e
    obtain ⟨h1, u, h2, h3⟩ := S.cell q d e
    exact ⟨h1, u, by rw [upd_ne hq]; exact h2, h3⟩
  · by_cases hq : q = p
    · subst hq; rw [upd_same] at e; cases e; exact ⟨hF, hC, upd_same⟩
    · rw [upd_ne hq] at e
      obtain ⟨h1, h2, h3⟩ := S.priv q u e
      exact ⟨h1, h2, by rw [upd_ne hq]; exact h3⟩
/-- what was kept aside is known for good, is a cell -/
theorem Sat.outF (S : Sat K F C (upd R p o) H) (hR : R p = none) : Sat K (upd F p o) C R H := by
  obtain ⟨f, c, h⟩ := S.priv p o upd_same
  refine ⟨fun a u e => ?_, fun q d e => ?_, fun q u e => ?_⟩
  · by_cases ha : a = p
    · subst ha; rw [upd_same] at e; cases e; exact h
    · rw [upd_ne ha] at e; exact S.ex _ _ e
  · have hq : q ≠ p := fun z => by rw [z, c] at e; cases e
    obtain ⟨h1, u, h2, h3⟩ := S.cell q d e
    exact ⟨by rw [upd_ne hq]; exact h1, u, h2, h3.mono (Ex.new f)⟩
  · have hq : q ≠ p := ne_of_none e hR
    obtain ⟨h1, h2, h3⟩ := S.priv q u (by rw [upd_ne hq]; exact e)
    exact ⟨by rw [upd_ne hq]; exact h1, h2, h3⟩
theorem Sat.outC {o : HO} {c : Cell} (S : Sat K F C (upd R p o) H) (hR : R p = none) (hc : CellC K F o c) : Sat K F (put C p c) R H := by
  obtain ⟨f, c0, h⟩ := S.priv p o upd_same
  refine ⟨S.ex, fun q d e => ?_, fun q u e => ?_⟩
  · by_cases hq : q = p
    · subst hq; rw [put_same] at e; cases e; exact ⟨f, o, h, hc⟩
    · rw [put_ne hq] at e; exact S.cell q d e
  · have hq : q ≠ p := ne_of_none e hR
    obtain ⟨h1, h2, h3⟩ := S.priv q u (by rw [upd_ne hq]; exact e)
    exact ⟨h1, by rw [put_ne hq]; exact h2, h3⟩
/-- a cell is changed no more -/
theorem Sat.freeze {o : HO} {c : Cell} (S : Sat K F C R H) (h : C p = some c) (hH : H p = some o) : Sat K (upd F p o) (del C p) R H := by
  obtain ⟨f, _, _⟩ := S.cell p c h
  refine ⟨fun a u e => ?_, fun q d e => ?_, fun q u e => ?_⟩
  · by_cases ha : a = p
    · subst ha; rw [upd_same] at e; cases e; exact hH
    · rw [upd_ne ha] at e; exact S.ex _ _ e
  · by_cases hq : q = p
    · subst hq; unfold del at e; rw [if_pos rfl] at e; cases e
    · unfold del at e; rw [if_neg hq] at e
      obtain ⟨h1, u, h2, h3⟩ := S.cell q d e
      exact ⟨by rw [upd_ne hq]; exact h1, u, h2, h3.mono (Ex.new f)⟩
  · obtain ⟨h1, h2, h3⟩ := S.priv q u e
    have hq : q ≠ p := fun z => by rw [z, h] at h2; cases h2
    refine ⟨by rw [upd_ne hq]; exact h1, ?_, h3⟩
    unfold del; rw [if_neg hq]; exact h2
end

/-! ### slots -/
abbrev ASt := List (Option D)
structure Slo (K : PySem.W.Frag) (F : Hp) (s : ASt) (σ : St) : Prop where
  len : s.length = σ.length
  at' : ∀ (i : Nat) (d : D), s[i]? = some (some d) → ∃ v, σ[i]? = some (some v) ∧ Rep K F v d
section
variable {K : PySem.W.Frag} {F F' : Hp} {s : ASt} {σ : St}
theorem Slo.mono (r : Slo K F s σ) (e : Ex F F') : Slo K F' s σ := ⟨r.len, fun i d h => let ⟨v, a, b⟩ := r.at' i d h; ⟨v, a, b.mono e⟩⟩
theorem Slo.set (r : Slo K F s σ) {v : V} {d : D} (h : Rep K F v d) (i : Nat) : Slo K F (s.set i (some d)) (σ.set i (some v)) := by
  refine ⟨by rw [List.length_set, List.length_set, r.len], fun j e q => ?_⟩
  by_cases hj : i = j
  · subst hj
    by_cases hi : i < s.length
    · rw [List.getElem?_set_self hi] at q
      cases q
      exact ⟨v, List.getElem?_set_self (by rw [← r.len]; exact hi), h⟩
    · rw [List.getElem?_eq_none (by simpa using hi)] at q; cases q
  · rw [List.getElem?_set_ne hj] at q ⊢
    exact r.at' j e q
theorem Slo.forget (r : Slo K F s σ) (i : Nat) : Slo K F (s.set i none) (σ.set i none) := by
  refine ⟨by rw [List.length_set, List.length_set, r.len], fun j e q => ?_⟩
  by_cases hj : i = j
  · subst hj
    by_cases hi : i < s.length
    · rw [List.getElem?_set_self hi] at q; cases q
    · rw [List.getElem?_eq_none (by simpa using hi)] at q; cases q
  · rw [List.getElem?_set_ne hj] at q ⊢
    exact r.at' j e q
/-- only the abstract slot changes -/
theorem Slo.reset (r : Slo K F s σ) {i : Nat} {d0 d : D} (h0 : s[i]? = some (some d0)) (h : ∀ v, Rep K F v d0 → Rep K F v d) : Slo K F (s.set i (some d)) σ := by
  refine ⟨by rw [List.length_set, r.len], fun j e q => ?_⟩
  by_cases hj : i = j
  · subst hj
    have hi : i < s.length := (List.getElem?_eq_some_iff.mp h0).1
    rw [List.getElem?_set_self hi] at q
    cases q
    obtain ⟨v, h1, h2⟩ := r.at' i d0 h0
    exact ⟨v, h1, h v h2⟩
  · rw [List.getElem?_set_ne hj] at q
    exact r.at' j e q
def wipeA (s : ASt) : List Nat → ASt
  | [] => s
  | v :: vs => (wipeA s vs).set v none
theorem Slo.wipe (r : Slo K F s σ) : ∀ vs : List Nat, Slo K F (wipeA s vs) (L2.wipe σ vs)
  | [] => r
  | v :: vs => (Slo.wipe r vs).forget v
theorem Slo.start {vs : List V} {ds : List D} (h : RepL K F vs ds) (n : Nat) : Slo K F (ds.map some ++ List.replicate (n - ds.length) none) (vs.map some ++ List.replicate (n - vs.length) none) := by
  have e := h.length
  refine ⟨by simp [e], fun i d q => ?_⟩
  by_cases hi : i < ds.length
  · rw [List.getElem?_append_left (by simpa using hi), List.getElem?_map] at q
    rw [List.getElem?_append_left (by simpa [e] using hi), List.getElem?_map]
    cases z : ds[i]? with
    | none => rw [z] at q; cases q
    | some d' =>
      rw [z] at q
      cases q
      obtain ⟨v, h1, h2⟩ := h.getD z
      exact ⟨v, by rw [h1]; rfl, h2⟩
  · rw [List.getElem?_append_right (by simpa using hi), List.getElem?_replicate] at q
    split at q <;> cases q
end
end AL

namespace AL
open PySem PySem.Spec L2

/-! ### abstract programs -/
abbrev AE' := ASt → AH → (D → AH → Prop) → Prop
abbrev AT' := ASt → AH → (Bool → AH → Prop) → Prop
abbrev AA' := ASt → AH → (List D → AH → Prop) → Prop
structure AEnds where
  nx : ASt → AH → Prop
  rt : D → AH → Prop
  bk : ASt → AH → Prop := fun _ _ => False
  ct : ASt → AH → Prop := fun _ _ => False
abbrev AS' := AEnds → ASt → AH → Prop
abbrev AG' := D → ASt → AH → (ASt → AH → Prop) → Prop
/-- what is walked: the items, what must stay so, the cells -/
abbrev AI' := ASt → AH → (List D → (AH → Prop) → AH → Prop) → Prop
abbrev ASp := List D → AH → (D → AH → Prop) → Prop

section
variable (K : PySem.W.Frag)
def SimE (te : TE) (a : AE') : Prop := ∀ (σ : L2.St) (s : ASt) (F : Hp) (C : AH) (R H : Hp) (Q : VK) (P : D → AH → Prop), Slo K F s σ → Sat K F C R H → a s C P →
  (∀ d v F' C' H', Ex F F' → Sat K F' C' R H' → Rep K F' v d → P d C' → Q v H') → te σ H Q
def SimT (tt : TT) (a : AT') : Prop := ∀ (σ : L2.St) (s : ASt) (F : Hp) (C : AH) (R H : Hp) (Q : Bool → Hp → Prop) (P : Bool → AH → Prop), Slo K F s σ → Sat K F C R H → a s C P →
  (∀ b F' C' H', Ex F F' → Sat K F' C' R H' → P b C' → Q b H') → tt σ H Q
def SimA (n : Nat) (ta : TA) (a : AA') : Prop := ∀ (σ : L2.St) (s : ASt) (F : Hp) (C : AH) (R H : Hp) (Q : List V → Hp → Prop) (P : List D → AH → Prop), Slo K F s σ → Sat K F C R H → a s C P →
  (∀ ds vs F' C' H', Ex F F' → Sat K F' C' R H' → RepL K F' vs ds → ds.length = n → P ds C' → Q vs H') → ta σ H Q
structure EndsR (F R : Hp) (E : AEnds) (D' : Ends) : Prop where
  nx : ∀ s σ F' C' H', Ex F F' → Slo K F' s σ → Sat K F' C' R H' → E.nx s C' → D'.nx σ H'
  rt : ∀ d v F' C' H', Ex F F' → Rep K F' v d → Sat K F' C' R H' → E.rt d C' → D'.rt v H'
  bk : ∀ s σ F' C' H', Ex F F' → Slo K F' s σ → Sat K F' C' R H' → E.bk s C' → D'.bk σ H'
  ct : ∀ s σ F' C' H', Ex F F' → Slo K F' s σ → Sat K F' C' R H' → E.ct s C' → D'.ct σ H'
def SimS (ts : TS) (a : AS') : Prop := ∀ (D' : Ends) (E : AEnds) (σ : L2.St) (s : ASt) (F : Hp) (C : AH) (R H : Hp), EndsR K F R E D' → Slo K F s σ → Sat K F C R H → a E s C → ts D' σ H
def SimG (g : TG) (a : AG') : Prop := ∀ (v : V) (d : D) (σ : L2.St) (s : ASt) (F : Hp) (C : AH) (R H : Hp) (Q : L2.St → Hp → Prop) (P : ASt → AH → Prop), Slo K F s σ → Sat K F C R H → Rep K F v d → a d s C P →
  (∀ s' σ' F' C' H', Ex F F' → Slo K F' s' σ' → Sat K F' C' R H' → P s' C' → Q σ' H') → g v σ H Q
/-- an iterator walks the items -/
structure Walks (F : Hp) (items : List D) (hold : AH → Prop) (J : It) : Prop where
  stop : ∀ F' C' R' H', Ex F F' → Sat K F' C' R' H' → hold C' → J.stop items.length H'
  go : ∀ F' C' R' H' i, Ex F F' → Sat K F' C' R' H' → hold C' → i < items.length → J.go i H'
  yld : ∀ F' C' R' H' i x H'', Ex F F' → Sat K F' C' R' H' → hold C' → i < items.length → J.yld i H' x H'' → ∃ d F'', items[i]? = some d ∧ Ex F' F'' ∧ Sat K F'' C' R' H'' ∧ Rep K F'' x d
def SimI (wi : TI) (a : AI') : Prop := ∀ (σ : L2.St) (s : ASt) (F : Hp) (C : AH) (R H : Hp) (Q : It → Hp → Prop) (P : List D → (AH → Prop) → AH → Prop), Slo K F s σ → Sat K F C R H → a s C P →
  (∀ items hold J F' C' H', Ex F F' → Sat K F' C' R H' → Walks K F' items hold J → P items hold C' → Q J H') → wi σ H Q
def SimR2 (r : R2) (a : D → D → AH → (D → AH → Prop) → Prop) : Prop := ∀ (v w : V) (d e : D) (F : Hp) (C : AH) (R H : Hp) (Q : VK) (P : D → AH → Prop), Sat K F C R H → Rep K F v d → Rep K F w e → a d e C P →
  (∀ d v F' C' H', Ex F F' → Sat K F' C' R H' → Rep K F' v d → P d C' → Q v H') → r v w H Q
def SimR1 (r : V → Hp → VK → Prop) (a : D → AH → (D → AH → Prop) → Prop) : Prop := ∀ (v : V) (d : D) (F : Hp) (C : AH) (R H : Hp) (Q : VK) (P : D → AH → Prop), Sat K F C R H → Rep K F v d → a d C P →
  (∀ d v F' C' H', Ex F F' → Sat K F' C' R H' → Rep K F' v d → P d C' → Q v H') → r v H Q
def SimRL (r : List V → Hp → VK → Prop) (a : ASp) : Prop := ∀ (vs : List V) (ds : List D) (F : Hp) (C : AH) (R H : Hp) (Q : VK) (P : D → AH → Prop), Sat K F C R H → RepL K F vs ds → a ds C P →
  (∀ d v F' C' H', Ex F F' → Sat K F' C' R H' → Rep K F' v d → P d C' → Q v H') → r vs H Q
def SimRM (r : V → List V → Hp → VK → Prop) (a : D → ASp) : Prop := ∀ (v : V) (d : D) (vs : List V) (ds : List D) (F : Hp) (C : AH) (R H : Hp) (Q : VK) (P : D → AH → Prop), Sat K F C R H → Rep K F v d → RepL K F vs ds → a d ds C P →
  (∀ d v F' C' H', Ex F F' → Sat K F' C' R H' → Rep K F' v d → P d C' → Q v H') → r v vs H Q
end
structure AE (X : Cx) (e : Expr) (te : TE) (a : AE') : Prop where
  pe : PE X e te
  sim : SimE X.K te a
structure AT (X : Cx) (e : Expr) (tt : TT) (a : AT') : Prop where
  pt : PT X e tt
  sim : SimT X.K tt a
structure AW (X : Cx) (e : Expr) (tt : TT) (a : AT') : Prop where
  pw : PW X e tt
  sim : SimT X.K tt a
structure ATs (X : Cx) (es : List Expr) (tt : TT) (a : AT') : Prop where
  pts : PTs X es tt
  sim : SimT X.K tt a
structure AA (X : Cx) (es : List Expr) (n : Nat) (ta : TA) (a : AA') : Prop where
  pa : PA X es ta
  sim : SimA X.K n ta a
structure AS (X : Cx) (st : Stmt) (ts : TS) (a : AS') : Prop where
  ps : PS X st ts
  sim : SimS X.K ts a
structure ASs (X : Cx) (st : List Stmt) (ts : TS) (a : AS') : Prop where
  ps : PSs X st ts
  sim : SimS X.K ts a
/-- a target stores to the slots vs alone -/
def GIn (vs : List Nat) (g : TG) : Prop := ∀ x σ H (Q Q' : L2.St → Hp → Prop), g x σ H Q → (∀ σ2 H2, L2.wipe σ2 vs = L2.wipe σ vs → Q σ2 H2 → Q' σ2 H2) → g x σ H Q'
structure AG (X : Cx) (e : Expr) (vs : List Nat) (g : TG) (a : AG') : Prop where
  pg : PG X e g
  sim : SimG X.K g a
  inn : GIn vs g
structure AI (X : Cx) (tg e : Expr) (wi : TI) (a : AI') : Prop where
  pi : PI X tg e wi
  sim : SimI X.K wi a

/-! ### names, constants -/
def aVar (i : Nat) : AE' := fun s C P => match s[i]? with | some (some d) => P d C | _ => False
def aC (d : D) : AE' := fun _ C P => P d C
section
variable {X : Cx} {pos : Pos} {K : PySem.W.Frag}
theorem sim_var (i : Nat) : SimE K (tVar i) (aVar i) := by
  intro σ s F C R H Q P hs hS h k
  unfold aVar at h
  split at h
  · rename_i d e
    obtain ⟨v, h1, h2⟩ := hs.at' i d e
    exact ⟨v, h1, k d v F C H (Ex.refl F) hS h2 h⟩
  · exact h.elim
theorem ae_v (i : Nat) {x : Str} (hN : X.N[i]? = some x := by rfl) (hv : Vis X.env.scope x := by first | exact Or.inl rfl | exact Or.inr (Or.inl rfl) | exact Or.inr (Or.inr rfl)) (hd : (x == ("__debug__" : Str)) = false := by decide)
    (hcd : (x == ("__classdict__" : Str)) = false := by decide) : AE X (.Name x pos) (tVar i) (aVar i) := ⟨pe_var hN hv hd hcd, sim_var i⟩
theorem sim_c {v : V} {d : D} (h : ∀ F, Rep K F v d) : SimE K (tC v) (aC d) := fun σ s F C R H Q P hs hS a k => k d v F C H (Ex.refl F) hS (h F) a
theorem ae_int {i j} : AE X (.Constant (.int i) j pos) (tC (.int i)) (aC (.int i)) := ⟨pe_int, sim_c fun _ => .int i⟩
theorem ae_bl {b j} : AE X (.Constant (.bool b) j pos) (tC (.bl b)) (aC (.bl b)) := ⟨pe_bl, sim_c fun _ => .bl b⟩
theorem ae_non {j} : AE X (.Constant .none j pos) (tC .non) (aC .non) := ⟨pe_non, sim_c fun _ => .non⟩
theorem ae_str {x j} : AE X (.Constant (.str x) j pos) (tC (.str x)) (aC (.str x)) := ⟨pe_str, sim_c fun _ => .str x⟩
theorem ae_gint {x : Str} {i : Int} (h : ∃ u, X.mg x = some u ∧ RelV (.int i) u) (hg : Gl X x := by rfl) (hd : (x == ("__debug__" : Str)) = false := by decide) : AE X (.Name x pos) (tC (.int i)) (aC (.int i)) :=
  let ⟨_, h1, h2⟩ := h
  ⟨pe_glob hg h1 h2 hd, sim_c fun _ => .int i⟩

/-! ### operators -/
def aOp (r : D → D → AH → (D → AH → Prop) → Prop) (a b : AE') : AE' := fun s C P => a s C fun x C1 => b s C1 fun y C2 => r x y C2 P
def aUn (r : D → AH → (D → AH → Prop) → Prop) (a : AE') : AE' := fun s C P => a s C fun x C1 => r x C1 P
theorem sim_op {r : R2} {ar} {ta tb : TE} {a b : AE'} (hr : SimR2 K r ar) (ha : SimE K ta a) (hb : SimE K tb b) : SimE K (tOp r ta tb) (aOp ar a b) := by
  intro σ s F C R H Q P hs hS h k
  refine ha σ s F C R H _ _ hs hS h fun x v F1 C1 H1 e1 S1 r1 h1 => ?_
  refine hb σ s F1 C1 R H1 _ _ (hs.mono e1) S1 h1 fun y w F2 C2 H2 e2 S2 r2 h2 => ?_
  exact hr v w x y F2 C2 R H2 Q P S2 (r1.mono e2) r2 h2 fun d u F3 C3 H3 e3 S3 r3 h3 => k d u F3 C3 H3 ((e1.trans e2).trans e3) S3 r3 h3
theorem sim_un {r : V → Hp → VK → Prop} {ar} {ta : TE} {a : AE'} (hr : SimR1 K r ar) (ha : SimE K ta a) : SimE K (tUn r ta) (aUn ar a) := by
  intro σ s F C R H Q P hs hS h k
  refine ha σ s F C R H _ _ hs hS h fun x v F1 C1 H1 e1 S1 r1 h1 => ?_
  exact hr v x F1 C1 R H1 Q P S1 r1 h1 fun d u F3 C3 H3 e3 S3 r3 h3 => k d u F3 C3 H3 (e1.trans e3) S3 r3 h3
/-- an operation f by values -/
structure AOp (X : Cx) (f : Value → Value → Sem Value) (r : R2) (a : D → D → AH → (D → AH → Prop) → Prop) : Prop where
  op : OpR X f r
  sim : SimR2 X.K r a
theorem ae_op {o : Operator} {r ar} {a b : Expr} {ta tb : TE} {aa ab : AE'} (ho : AOp X (binaryOp o) r ar) (ha : AE X a ta aa) (hb : AE X b tb ab) : AE X (.BinOp a o b pos) (tOp r ta tb) (aOp ar aa ab) := ⟨pe_op ho.op ha.pe hb.pe, sim_op ho.sim ha.sim hb.sim⟩
theorem ae_cmp {o : CmpOp} {r ar} {a b : Expr} {ta tb : TE} {aa ab : AE'} (ho : AOp X (compareOp o) r ar) (ha : AE X a ta aa) (hb : AE X b tb ab) (hm : behindInMarks o b = false := by first | exact nomark _ | with_unfolding_all rfl) : AE X (.Compare a [o] [b] pos) (tOp r ta tb) (aOp ar aa ab) :=
  ⟨pe_cmpR ho.op ha.pe hb.pe hm, sim_op ho.sim ha.sim hb.sim⟩
theorem SimR2.or {r r' : R2} {ar ar'} (h : SimR2 K r ar) (h' : SimR2 K r' ar') : SimR2 K (fun x y H Q => r x y H Q ∨ r' x y H Q) (fun x y C P => ar x y C P ∨ ar' x y C P) := by
  intro v w d e F C R H Q P hS r1 r2 h0 k
  rcases h0 with q | q
  · exact .inl (h v w d e F C R H Q P hS r1 r2 q k)
  · exact .inr (h' v w d e F C R H Q P hS r1 r2 q k)
theorem SimR2.imp {r : R2} {ar ar' : D → D → AH → (D → AH → Prop) → Prop} (h : SimR2 K r ar) (i : ∀ d e C P, ar' d e C P → ar d e C P) : SimR2 K r ar' := fun v w d e F C R H Q P hS r1 r2 h0 k => h v w d e F C R H Q P hS r1 r2 (i d e C P h0) k
/-- ints in, a flat value out -/
def aI (c : Int → Int → Prop) (g : Int → Int → D) : D → D → AH → (D → AH → Prop) → Prop := fun x y C P => match x, y with
  | .int i, .int j => c i j ∧ P (g i j) C
  | _, _ => False
theorem simI {c : Int → Int → Prop} {g : Int → Int → V} {g' : Int → Int → D} (hg : ∀ F i j, Rep K F (g i j) (g' i j)) : SimR2 K (rI c g) (aI c g') := by
  intro v w d e F C R H Q P hS r1 r2 h k
  unfold aI at h
  split at h
  · cases r1; cases r2
    exact ⟨_, _, rfl, rfl, h.1, k _ _ F C H (Ex.refl F) hS (hg F _ _) h.2⟩
  · exact h.elim
def aI0 (g : Int → Int → D) : D → D → AH → (D → AH → Prop) → Prop := fun x y C P => match x, y with
  | .int i, .int j => P (g i j) C
  | _, _ => False
theorem simI0 {g : Int → Int → V} {g' : Int → Int → D} (hg : ∀ F i j, Rep K F (g i j) (g' i j)) : SimR2 K (rI0 g) (aI0 g') := by
  intro v w d e F C R H Q P hS r1 r2 h k
  unfold aI0 at h
  split at h
  · cases r1; cases r2
    exact ⟨_, _, rfl, rfl, k _ _ F C H (Ex.refl F) hS (hg F _ _) h⟩
  · exact h.elim
def aSub := aI0 fun i j => .int (i - j)
def CMulA (i j : Int) : Prop := CMul i j ∨ CMulW i j
def aMul := aI CMul fun i j => .int (i * j)
def aMulW := aI CMulW fun i j => .int (i * j)
def aDiv := aI CDiv fun i j => .int (i / j)
def aDivW := aI CDivW fun i j => .int (i / j)
def aMod := aI (fun _ j => 0 < j) fun i j => .int (i % j)
def aLt := aI0 fun i j => .bl (decide (i < j))
def aLe := aI0 fun i j => .bl (decide (i ≤ j))
def aGt := aI0 fun i j => .bl (decide (j < i))
def aGe := aI0 fun i j => .bl (decide (j ≤ i))
def aPow := aI CPow fun i j => .int (i ^ j.toNat)
theorem ao_sub : AOp X (binaryOp .Sub) (rI0 fun i j => .int (i - j)) aSub := ⟨op_sub, simI0 fun _ _ _ => .int _⟩
theorem ao_mul : AOp X (binaryOp .Mult) (rI CMul fun i j => .int (i * j)) aMul := ⟨op_mul, simI fun _ _ _ => .int _⟩
theorem ao_mulW : AOp X (binaryOp .Mult) (rI CMulW fun i j => .int (i * j)) aMulW := ⟨op_mulW, simI fun _ _ _ => .int _⟩
theorem ao_div : AOp X (binaryOp .FloorDiv) (rI CDiv fun i j => .int (i / j)) aDiv := ⟨op_fdiv, simI fun _ _ _ => .int _⟩
theorem ao_divW : AOp X (binaryOp .FloorDiv) (rI CDivW fun i j => .int (i / j)) aDivW := ⟨op_fdivW, simI fun _ _ _ => .int _⟩
theorem ao_mod : AOp X (binaryOp .Mod) (rI (fun _ j => 0 < j) fun i j => .int (i % j)) aMod := ⟨op_mod, simI fun _ _ _ => .int _⟩
theorem ao_pow : AOp X (binaryOp .Pow) (rI CPow fun i j => .int (i ^ j.toNat)) aPow := ⟨op_pow, simI fun _ _ _ => .int _⟩
theorem ao_lt : AOp X (compareOp .Lt) (rI0 fun i j => .bl (decide (i < j))) aLt := ⟨op_lt, simI0 fun _ _ _ => .bl _⟩
theorem ao_le : AOp X (compareOp .LtE) (rI0 fun i j => .bl (decide (i ≤ j))) aLe := ⟨op_le, simI0 fun _ _ _ => .bl _⟩
theorem ao_gt : AOp X (compareOp .Gt) (rI0 fun i j => .bl (decide (j < i))) aGt := ⟨op_gt, simI0 fun _ _ _ => .bl _⟩
theorem ao_ge : AOp X (compareOp .GtE) (rI0 fun i j => .bl (decide (j ≤ i))) aGe := ⟨op_ge, simI0 fun _ _ _ => .bl _⟩

/-! ### what a tree reads as a list, a tuple -/
def asL (C : AH) : D → Option (List D)
  | .lst ds => some ds
  | .ce p => match C p with | some (.lst ds) => some ds | _ => none
  | _ => none
def asLr (C : AH) : D → Option (List D)
  | .scr ns => some (ns.map D.int)
  | d => asL C d
def asT : D → Option (List D)
  | .tup ds => some ds
  | _ => none
section
variable {F : Hp} {C : AH} {R H : Hp} {v : V} {d : D} {ds : List D}
theorem asL_ok (hS : Sat K F C R H) (r : Rep K F v d) (h : asL C d = some ds) : ∃ a xs, v = .ref a ∧ H a = some (.lst xs) ∧ RepL K F xs ds := by
  cases r with
  | lst e q => cases h; exact ⟨_, _, rfl, hS.ex _ _ e, q⟩
  | ce p =>
    simp only [asL] at h
    split at h
    · rename_i e
      cases h
      obtain ⟨_, o, h1, h2⟩ := hS.cell p _ e
      cases h2 with
      | lst q => exact ⟨p, _, rfl, h1, q⟩
    · cases h
  | _ => cases h
theorem asLr_ok (hS : Sat K F C R H) (r : Rep K F v d) (h : asLr C d = some ds) : ∃ a xs, v = .ref a ∧ SqL K H a xs ∧ RepL K F xs ds := by
  cases d with
  | scr ns =>
    cases r with
    | scr e => cases h; exact ⟨_, _, rfl, hS.ex.l e, .ints ns⟩
  | _ =>
    obtain ⟨a, xs, h1, h2, h3⟩ := asL_ok hS r (show asL C _ = some ds from h)
    exact ⟨a, xs, h1, SqL.of h2, h3⟩
theorem asT_ok (hS : Sat K F C R H) (r : Rep K F v d) (h : asT d = some ds) : ∃ a xs, v = .ref a ∧ H a = some (.tup xs) ∧ RepL K F xs ds := by
  cases r with
  | tup e q => cases h; exact ⟨_, _, rfl, hS.ex _ _ e, q⟩
  | _ => cases h
end
/-- the order matters: what stands ahead is tried first -/
def aAdd : D → D → AH → (D → AH → Prop) → Prop := fun x y C P => match x, y with
  | .int i, .int j => P (.int (i + j)) C
  | .str i, .str j => i.length + j.length ≤ sizeLine ∧ P (.str (i ++ j)) C
  | .tup xs, .tup ys => xs.length + ys.length ≤ sizeLine ∧ P (.tup (xs ++ ys)) C
  | x, y => ∃ xs ys, asL C x = some xs ∧ asL C y = some ys ∧ xs.length + ys.length ≤ sizeLine ∧ P (.lst (xs ++ ys)) C
def rAddA (K : PySem.W.Frag) : R2 := fun x y H Q => (rI0 (fun i j => .int (i + j)) x y H Q ∨ (∃ i j, x = .str i ∧ y = .str j ∧ i.length + j.length ≤ sizeLine ∧ Q (.str (i ++ j)) H)) ∨ rCatA K x y H Q ∨ rCat x y H Q
theorem sim_add : SimR2 K (rAddA K) aAdd := by
  intro v w d e F C R H Q P hS r1 r2 h k
  unfold aAdd at h
  split at h
  · cases r1; cases r2
    exact .inl (.inl ⟨_, _, rfl, rfl, k _ _ F C H (Ex.refl F) hS (.int _) h⟩)
  · cases r1; cases r2
    exact .inl (.inr ⟨_, _, rfl, rfl, h.1, k _ _ F C H (Ex.refl F) hS (.str _) h.2⟩)
  · cases r1 with
    | @tup a xs us h1 q1 =>
      cases r2 with
      | @tup b ys ws h2 q2 =>
        refine .inr (.inl ⟨a, b, xs, ys, rfl, rfl, SqT.of (hS.ex _ _ h1), SqT.of (hS.ex _ _ h2), by rw [q1.length, q2.length]; exact h.1, fun z => ?_, fun _ z => ?_, fun _ _ p hp => ?_⟩)
        · subst z
          cases q1
          exact k _ _ F C H (Ex.refl F) hS (.tup h2 q2) h.2
        · subst z
          cases q2
          have := h.2
          rw [List.append_nil] at this
          exact k _ _ F C H (Ex.refl F) hS (.tup h1 q1) this
        · have e := Ex.new (o := .tup (xs ++ ys)) (hS.freeF hp)
          exact k _ _ _ C _ e (hS.newF hp _) (.tup upd_same ((q1.append q2).mono e)) h.2
  · obtain ⟨xs', ys', h1, h2, hl, h3⟩ := h
    obtain ⟨a, xs, e1, ha, q1⟩ := asL_ok hS r1 h1
    obtain ⟨b, ys, e2, hb, q2⟩ := asL_ok hS r2 h2
    refine .inr (.inr ⟨a, b, xs, ys, e1, e2, ha, hb, by rw [q1.length, q2.length]; exact hl, fun p hp => ?_⟩)
    have e := Ex.new (o := .lst (xs ++ ys)) (hS.freeF hp)
    exact k _ _ _ C _ e (hS.newF hp _) (.lst upd_same ((q1.append q2).mono e)) h3
theorem ao_add (hK : X.K = K := by rfl) : AOp X (binaryOp .Add) (rAddA K) aAdd := by
  subst hK
  exact ⟨(op_add.or op_add_str).or (op_catA.or op_cat), sim_add⟩
/-- xs + ys, a list that will be changed -/
def aAddM : D → D → AH → (D → AH → Prop) → Prop := fun x y C P => ∃ xs ys, asL C x = some xs ∧ asL C y = some ys ∧ xs.length + ys.length ≤ sizeLine ∧ ∀ p, C p = none → P (.ce p) (put C p (.lst (xs ++ ys)))
theorem sim_addM : SimR2 K rCat aAddM := by
  intro v w d e F C R H Q P hS r1 r2 h k
  obtain ⟨xs', ys', h1, h2, hl, h3⟩ := h
  obtain ⟨a, xs, e1, ha, q1⟩ := asL_ok hS r1 h1
  obtain ⟨b, ys, e2, hb, q2⟩ := asL_ok hS r2 h2
  refine ⟨a, b, xs, ys, e1, e2, ha, hb, by rw [q1.length, q2.length]; exact hl, fun p hp => ?_⟩
  exact k _ _ F _ _ (Ex.refl F) (hS.newC hp (.lst (q1.append q2))) (.ce p) (h3 p (hS.freeC hp))
theorem ao_addM : AOp X (binaryOp .Add) rCat aAddM := ⟨op_cat, sim_addM⟩
end
end AL

namespace AL
open PySem PySem.Spec L2
section
variable {X : Cx} {pos : Pos} {K : PySem.W.Frag}
/-! ### ==, !=, in -/
mutual
/-- the tree as the library's data (none: a cell within it) -/
def D.pd : D → Option PyData
  | .non => some .none
  | .bl b => some (.bool b)
  | .int i => some (.int i)
  | .str x => some (.str x)
  | .lst ds => (pdL ds).map .list
  | .tup ds => (pdL ds).map .tuple
  | .scr ns => some (.list (ns.map .int))
  | _ => none
def pdL : List D → Option (List PyData)
  | [] => some []
  | d :: ds => match D.pd d, pdL ds with | some x, some xs => some (x :: xs) | _, _ => none
end
def pdC (C : AH) : D → Option PyData
  | .ce p => match C p with | some (.lst ds) => (pdL ds).map .list | _ => none
  | d => d.pd
mutual
theorem Rep.dp {F H : Hp} (e : Ex F H) : ∀ {d : D} {v : V} {x : PyData}, Rep K F v d → d.pd = some x → Dp K H v x
  | .non, _, _, r, h => by cases r; cases h; exact .non
  | .bl b, _, _, r, h => by cases r; cases h; exact .bl b
  | .int i, _, _, r, h => by cases r; cases h; exact .int i
  | .str x, _, _, r, h => by cases r; cases h; exact .str x
  | .lst ds, _, _, r, h => by
    cases r with
    | lst h1 h2 =>
      unfold D.pd at h
      cases q : pdL ds with
      | none => rw [q] at h; cases h
      | some xs => rw [q] at h; cases h; exact .lst (SqL.of (e _ _ h1)) (RepL.dp e h2 q)
  | .tup ds, _, _, r, h => by
    cases r with
    | tup h1 h2 =>
      unfold D.pd at h
      cases q : pdL ds with
      | none => rw [q] at h; cases h
      | some xs => rw [q] at h; cases h; exact .tup (SqT.of (e _ _ h1)) (RepL.dp e h2 q)
  | .scr ns, _, _, r, h => by
    cases r with
    | scr h1 => 
      cases h
      refine .lst (e.l h1) ?_
      clear h1
      induction ns with
      | nil => exact .nil
      | cons n ns ih => exact .cons (.int n) ih
  | .dk _, _, _, _, h => by unfold D.pd at h; cases h
  | .ce _, _, _, _, h => by unfold D.pd at h; cases h
theorem RepL.dp {F H : Hp} (e : Ex F H) : ∀ {ds : List D} {vs : List V} {xs : List PyData}, RepL K F vs ds → pdL ds = some xs → DpAll K H vs xs
  | [], _, _, r, h => by cases r; cases h; exact .nil
  | d :: ds, _, _, r, h => by
    cases r with
    | cons r1 r2 =>
      unfold pdL at h
      split at h
      · rename_i q1 q2
        cases h
        exact .cons (Rep.dp e r1 q1) (RepL.dp e r2 q2)
      · cases h
end
theorem pdC_ok {F : Hp} {C : AH} {R H : Hp} {v : V} {d : D} {x : PyData} (hS : Sat K F C R H) (r : Rep K F v d) (h : pdC C d = some x) : Dp K H v x := by
  cases d with
  | ce p =>
    cases r
    simp only [pdC] at h
    split at h
    · rename_i ds e
      cases q : pdL ds with
      | none => rw [q] at h; cases h
      | some xs =>
        rw [q] at h; cases h
        obtain ⟨_, o, h1, h2⟩ := hS.cell p _ e
        cases h2 with
        | lst h3 => exact .lst (SqL.of h1) (RepL.dp hS.ex h3 q)
    · cases h
  | _ => exact Rep.dp hS.ex r h
/-- flat values, == by itself -/
def eqS : D → D → Option Bool
  | .non, .non => some true
  | .non, .int _ => some false
  | .int _, .non => some false
  | .non, .bl _ => some false
  | .bl _, .non => some false
  | .non, .str _ => some false
  | .str _, .non => some false
  | .int i, .int j => some (decide (i = j))
  | .bl i, .bl j => some (decide (i = j))
  | .str i, .str j => some (decide (i = j))
  | .int _, .str _ => some false
  | .str _, .int _ => some false
  | .bl _, .str _ => some false
  | .str _, .bl _ => some false
  | _, _ => none
theorem eqS_ok {F : Hp} {v w : V} {d e : D} {b : Bool} (r1 : Rep K F v d) (r2 : Rep K F w e) (h : eqS d e = some b) : scal v w = true ∧ decide (v = w) = b := by
  unfold eqS at h
  split at h <;> first | (cases h; done) | (cases r1; cases r2; cases h; refine ⟨rfl, ?_⟩; first | rfl | (apply Bool.eq_iff_iff.mpr; simp; done))
def aEqN (neg : Bool) : D → D → AH → (D → AH → Prop) → Prop := fun x y C P => match eqS x y with
  | some b => P (.bl (if neg then !b else b)) C
  | none => ∃ d e, pdC C x = some d ∧ pdC C y = some e ∧ SeqAt.shaped d = true ∧ SeqAt.shaped e = true ∧ P (.bl (if neg then !PyData.eqv d e else PyData.eqv d e)) C
def aEq := aEqN false
def aNe := aEqN true
theorem sim_eq : SimR2 K (fun x y H Q => rEq x y H Q ∨ rEqD K x y H Q) aEq := by
  intro v w d e F C R H Q P hS r1 r2 h k
  unfold aEq aEqN at h
  split at h
  · rename_i b q
    obtain ⟨h1, h2⟩ := eqS_ok r1 r2 q
    exact .inl ⟨h1, k _ _ F C H (Ex.refl F) hS (by rw [h2]; exact .bl b) h⟩
  · obtain ⟨d', e', h1, h2, s1, s2, h3⟩ := h
    exact .inr ⟨d', e', pdC_ok hS r1 h1, pdC_ok hS r2 h2, s1, s2, k _ _ F C H (Ex.refl F) hS (.bl _) h3⟩
theorem sim_ne : SimR2 K (fun x y H Q => rNe x y H Q ∨ rNeD K x y H Q) aNe := by
  intro v w d e F C R H Q P hS r1 r2 h k
  unfold aNe aEqN at h
  split at h
  · rename_i b q
    obtain ⟨h1, h2⟩ := eqS_ok r1 r2 q
    exact .inl ⟨h1, k _ _ F C H (Ex.refl F) hS (by rw [h2]; exact .bl _) h⟩
  · obtain ⟨d', e', h1, h2, s1, s2, h3⟩ := h
    exact .inr ⟨d', e', pdC_ok hS r1 h1, pdC_ok hS r2 h2, s1, s2, k _ _ F C H (Ex.refl F) hS (.bl _) h3⟩
theorem ao_eq (hu : X.A.units + 64 < cLine) (hK : X.K = K := by rfl) : AOp X (compareOp .Eq) (fun x y H Q => rEq x y H Q ∨ rEqD K x y H Q) aEq := by
  subst hK
  exact ⟨op_eq.or (op_eqD hu), sim_eq⟩
theorem ao_ne (hu : X.A.units + 64 < cLine) (hK : X.K = K := by rfl) : AOp X (compareOp .NotEq) (fun x y H Q => rNe x y H Q ∨ rNeD K x y H Q) aNe := by
  subst hK
  exact ⟨op_ne.or (op_neD hu), sim_ne⟩
/-- is None -/
def isNon : D → Bool
  | .non => true
  | _ => false
def aIsN : D → D → AH → (D → AH → Prop) → Prop := fun x y C P => isNon y = true ∧ P (.bl (isNon x)) C
def aNotN : D → D → AH → (D → AH → Prop) → Prop := fun x y C P => isNon y = true ∧ P (.bl (!isNon x)) C
theorem isNon_ok {F : Hp} {v : V} {d : D} (r : Rep K F v d) : decide (v = .non) = isNon d := by
  cases r <;> rfl
theorem ao_is : AOp X (compareOp .Is) (fun x y H Q => y = .non ∧ Q (.bl (decide (x = .non))) H) aIsN := ⟨op_isN, by
  intro v w d e F C R H Q P hS r1 r2 h k
  refine ⟨of_decide_eq_true ((isNon_ok r2).trans h.1), k _ _ F C H (Ex.refl F) hS (by rw [isNon_ok r1]; exact .bl _) h.2⟩⟩
theorem ao_isnot : AOp X (compareOp .IsNot) (fun x y H Q => y = .non ∧ Q (.bl (!decide (x = .non))) H) aNotN := ⟨op_notN, by
  intro v w d e F C R H Q P hS r1 r2 h k
  refine ⟨of_decide_eq_true ((isNon_ok r2).trans h.1), k _ _ F C H (Ex.refl F) hS (by rw [isNon_ok r1]; exact .bl _) h.2⟩⟩

/-! ### truth, and, or, not, if -/
def truth (C : AH) : D → Option Bool
  | .non => some false
  | .bl b => some b
  | .int i => some (i != 0)
  | .str x => if x.length ≤ sizeLine then some ((x.length : Int) != 0) else none
  | .lst ds => some (!ds.isEmpty)
  | .tup ds => some (!ds.isEmpty)
  | .scr ns => some (!ns.isEmpty)
  | .dk kvs => some (!kvs.isEmpty)
  | .ce p => match C p with | some (.lst ds) => some (!ds.isEmpty) | some (.dk kvs) => some (!kvs.isEmpty) | _ => none
theorem RepL.empty {F : Hp} {vs : List V} {ds : List D} (r : RepL K F vs ds) : (!vs.isEmpty) = !ds.isEmpty := by cases r <;> rfl
theorem RepK.empty {F : Hp} {vs : List (Key × V)} {ds : List (Key × D)} (r : RepK K F vs ds) : (!vs.isEmpty) = !ds.isEmpty := by cases r <;> rfl
theorem truth_ok {F : Hp} {C : AH} {R H : Hp} {v : V} {d : D} {b : Bool} (hS : Sat K F C R H) (r : Rep K F v d) (h : truth C d = some b) : TruV K v H b := by
  cases r with
  | non => cases h; rfl
  | bl b => cases h; rfl
  | int i => cases h; rfl
  | str x =>
    simp only [truth] at h
    split at h
    · rename_i hz
      cases h
      exact ⟨hz, rfl⟩
    · cases h
  | lst e q => cases h; exact .inl ⟨_, SqL.of (hS.ex _ _ e), q.empty.symm⟩
  | tup e q => cases h; exact .inr (.inl ⟨_, SqT.of (hS.ex _ _ e), q.empty.symm⟩)
  | dk e q => cases h; exact .inr (.inr ⟨_, hS.ex _ _ e, q.empty.symm⟩)
  | scr e =>
    cases h
    refine .inl ⟨_, hS.ex.l e, ?_⟩
    rename_i ns
    cases ns <;> rfl
  | ce p =>
    simp only [truth] at h
    split at h
    · rename_i e
      cases h
      obtain ⟨_, o, h1, h2⟩ := hS.cell p _ e
      cases h2 with
      | lst q => exact .inl ⟨_, SqL.of h1, q.empty.symm⟩
    · rename_i e
      cases h
      obtain ⟨_, o, h1, h2⟩ := hS.cell p _ e
      cases h2 with
      | dk q => exact .inr (.inr ⟨_, h1, q.empty.symm⟩)
    · cases h
def aTru (a : AE') : AT' := fun s C P => a s C fun x C1 => match truth C1 x with | some b => P b C1 | none => False
theorem sim_tru {ta : TE} {a : AE'} (ha : SimE K ta a) : SimT K (fun σ H Q => ta σ H fun x H' => ∃ k, TruV K x H' k ∧ Q k H') (aTru a) := by
  intro σ s F C R H Q P hs hS h k
  refine ha σ s F C R H _ _ hs hS h fun x v F1 C1 H1 e1 S1 r1 h1 => ?_
  split at h1
  · rename_i b q
    exact ⟨b, truth_ok S1 r1 q, k b F1 C1 H1 e1 S1 h1⟩
  · exact h1.elim
theorem at_tru {e : Expr} {te : TE} {a : AE'} (h : AE X e te a) (he : ∀ whole, isTrue e X.env whole = (do let v ← whole; standAt e.pos; holding [v] (truthy v)) := by intro _; rfl) (hK : X.K = K := by rfl) :
    AT X e (fun σ H Q => te σ H fun x H' => ∃ k, TruV K x H' k ∧ Q k H') (aTru a) := by
  subst hK
  exact ⟨pt_truth h.pe he, sim_tru h.sim⟩
/-- a comparison's value as a test -/
def aB (a : AE') : AT' := fun s C P => a s C fun x C1 => match x with | .bl b => P b C1 | _ => False
theorem sim_B {ta : TE} {a : AE'} (ha : SimE K ta a) : SimT K (tTest ta) (aB a) := by
  intro σ s F C R H Q P hs hS h k
  refine ha σ s F C R H _ _ hs hS h fun x v F1 C1 H1 e1 S1 r1 h1 => ?_
  split at h1
  · cases r1
    exact ⟨_, rfl, k _ F1 C1 H1 e1 S1 h1⟩
  · exact h1.elim
theorem at_cmp {o : CmpOp} {r ar} {a b : Expr} {ta tb : TE} {aa ab : AE'} (ho : AOp X (compareOp o) r ar) (ha : AE X a ta aa) (hb : AE X b tb ab) (hm : behindInMarks o b = false := by first | exact nomark _ | with_unfolding_all rfl) : AT X (.Compare a [o] [b] pos) (tTest (tOp r ta tb)) (aB (aOp ar aa ab)) :=
  ⟨pt_cmpR ho.op ha.pe hb.pe hm, sim_B (sim_op ho.sim ha.sim hb.sim)⟩
/-- a < b < c -/
def aChain (r r' : D → D → AH → (D → AH → Prop) → Prop) (a b c : AE') : AE' := fun s C P => a s C fun x C1 => b s C1 fun y C2 => r x y C2 fun z C3 => match z with
  | .bl true => c s C3 fun w C4 => r' y w C4 P
  | .bl false => P (.bl false) C3
  | _ => False
theorem sim_chain {r r' : R2} {ar ar'} {ta tb tc : TE} {a b c : AE'} (hr : SimR2 K r ar) (hr' : SimR2 K r' ar') (ha : SimE K ta a) (hb : SimE K tb b) (hc : SimE K tc c) : SimE K (tChain r r' ta tb tc) (aChain ar ar' a b c) := by
  intro σ s F C R H Q P hs hS h k
  refine ha σ s F C R H _ _ hs hS h fun x v F1 C1 H1 e1 S1 r1 h1 => ?_
  refine hb σ s F1 C1 R H1 _ _ (hs.mono e1) S1 h1 fun y w F2 C2 H2 e2 S2 r2 h2 => ?_
  refine hr v w x y F2 C2 R H2 _ _ S2 (r1.mono e2) r2 h2 fun z u F3 C3 H3 e3 S3 r3 h3 => ?_
  split at h3
  · cases r3
    refine ⟨true, rfl, ?_⟩
    rw [if_pos rfl]
    refine hc σ s F3 C3 R H3 _ _ (hs.mono ((e1.trans e2).trans e3)) S3 h3 fun w' u' F4 C4 H4 e4 S4 r4 h4 => ?_
    exact hr' w u' y w' F4 C4 R H4 Q P S4 (r2.mono (e3.trans e4)) r4 h4 fun d u F5 C5 H5 e5 S5 r5 h5 => k d u F5 C5 H5 ((((e1.trans e2).trans e3).trans e4).trans e5) S5 r5 h5
  · cases r3
    refine ⟨false, rfl, ?_⟩
    rw [if_neg Bool.false_ne_true]
    exact k _ _ F3 C3 H3 ((e1.trans e2).trans e3) S3 (.bl false) h3
  · exact h3.elim
theorem ae_chain {o o' : CmpOp} {r r' ar ar'} {a b c : Expr} {ta tb tc : TE} {aa ab ac : AE'} (ho : AOp X (compareOp o) r ar) (ho' : AOp X (compareOp o') r' ar') (ha : AE X a ta aa) (hb : AE X b tb ab) (hc : AE X c tc ac)
    (hm : lastMarks [o, o'] [b, c] = false := by first | rfl | with_unfolding_all rfl) : AE X (.Compare a [o, o'] [b, c] pos) (tChain r r' ta tb tc) (aChain ar ar' aa ab ac) :=
  ⟨pe_chain ho.op ho'.op ha.pe hb.pe hc.pe hm, sim_chain ho.sim ho'.sim ha.sim hb.sim hc.sim⟩
theorem at_chain {o o' : CmpOp} {r r' ar ar'} {a b c : Expr} {ta tb tc : TE} {aa ab ac : AE'} (ho : AOp X (compareOp o) r ar) (ho' : AOp X (compareOp o') r' ar') (ha : AE X a ta aa) (hb : AE X b tb ab) (hc : AE X c tc ac)
    (hm : lastMarks [o, o'] [b, c] = false := by first | rfl | with_unfolding_all rfl) : AT X (.Compare a [o, o'] [b, c] pos) (tTest (tChain r r' ta tb tc)) (aB (aChain ar ar' aa ab ac)) :=
  ⟨pt_chain ho.op ho'.op ha.pe hb.pe hc.pe hm, sim_B (sim_chain ho.sim ho'.sim ha.sim hb.sim hc.sim)⟩
def aAnd (a b : AT') : AT' := fun s C P => a s C fun c C1 => if c = true then b s C1 P else P false C1
def aOr (a b : AT') : AT' := fun s C P => a s C fun c C1 => if c = true then P true C1 else b s C1 P
def aNot (a : AT') : AT' := fun s C P => a s C fun c C1 => P (!c) C1
theorem sim_and {t u : TT} {a b : AT'} (ha : SimT K t a) (hb : SimT K u b) : SimT K (tAnd t u) (aAnd a b) := by
  intro σ s F C R H Q P hs hS h k
  refine ha σ s F C R H _ _ hs hS h fun c F1 C1 H1 e1 S1 h1 => ?_
  cases c with
  | true => exact hb σ s F1 C1 R H1 Q P (hs.mono e1) S1 h1 fun c F2 C2 H2 e2 S2 h2 => k c F2 C2 H2 (e1.trans e2) S2 h2
  | false => exact k false F1 C1 H1 e1 S1 h1
theorem sim_or {t u : TT} {a b : AT'} (ha : SimT K t a) (hb : SimT K u b) : SimT K (tOr t u) (aOr a b) := by
  intro σ s F C R H Q P hs hS h k
  refine ha σ s F C R H _ _ hs hS h fun c F1 C1 H1 e1 S1 h1 => ?_
  cases c with
  | false => exact hb σ s F1 C1 R H1 Q P (hs.mono e1) S1 h1 fun c F2 C2 H2 e2 S2 h2 => k c F2 C2 H2 (e1.trans e2) S2 h2
  | true => exact k true F1 C1 H1 e1 S1 h1
theorem sim_not {t : TT} {a : AT'} (ha : SimT K t a) : SimT K (tNot t) (aNot a) := by
  intro σ s F C R H Q P hs hS h k
  exact ha σ s F C R H _ _ hs hS h fun c F1 C1 H1 e1 S1 h1 => k (!c) F1 C1 H1 e1 S1 h1
section
variable {a b : Expr} {t u : TT} {ta tb : TE} {xa xb : AT'} {aa ab : AE'} {rest : List Expr}
theorem aw_and1 (h : AT X a t xa) : AW X (.BoolOp .And [a] pos) t xa := ⟨pw_and1 h.pt, h.sim⟩
theorem aw_or1 (h : AT X a t xa) : AW X (.BoolOp .Or [a] pos) t xa := ⟨pw_or1 h.pt, h.sim⟩
theorem aw_and (h : AT X a t xa) (g : AW X (.BoolOp .And (b :: rest) pos) u xb) : AW X (.BoolOp .And (a :: b :: rest) pos) (tAnd t u) (aAnd xa xb) := ⟨pw_and h.pt g.pw, sim_and h.sim g.sim⟩
theorem aw_or (h : AT X a t xa) (g : AW X (.BoolOp .Or (b :: rest) pos) u xb) : AW X (.BoolOp .Or (a :: b :: rest) pos) (tOr t u) (aOr xa xb) := ⟨pw_or h.pt g.pw, sim_or h.sim g.sim⟩
theorem aw_t (h : AW X a t xa) : AT X a t xa := ⟨h.pw.pt, h.sim⟩
theorem at_not (h : AT X a t xa) : AT X (.UnaryOp .Not a pos) (tNot t) (aNot xa) := ⟨pt_not h.pt, sim_not h.sim⟩
/-- as values -/
def aAndV (a b : AE') : AE' := fun s C P => a s C fun x C1 => match truth C1 x with | some true => b s C1 P | some false => P x C1 | none => False
def aOrV (a b : AE') : AE' := fun s C P => a s C fun x C1 => match truth C1 x with | some true => P x C1 | some false => b s C1 P | none => False
def aNotV (a : AE') : AE' := fun s C P => a s C fun x C1 => match truth C1 x with | some b => P (.bl (!b)) C1 | none => False
theorem sim_andV (ha : SimE K ta aa) (hb : SimE K tb ab) : SimE K (tAndT K ta tb) (aAndV aa ab) := by
  intro σ s F C R H Q P hs hS h k
  refine ha σ s F C R H _ _ hs hS h fun x v F1 C1 H1 e1 S1 r1 h1 => ?_
  split at h1
  · rename_i q
    refine ⟨true, truth_ok S1 r1 q, ?_⟩
    rw [if_pos rfl]
    exact hb σ s F1 C1 R H1 Q P (hs.mono e1) S1 h1 fun d u F2 C2 H2 e2 S2 r2 h2 => k d u F2 C2 H2 (e1.trans e2) S2 r2 h2
  · rename_i q
    refine ⟨false, truth_ok S1 r1 q, ?_⟩
    rw [if_neg Bool.false_ne_true]
    exact k x v F1 C1 H1 e1 S1 r1 h1
  · exact h1.elim
theorem sim_orV (ha : SimE K ta aa) (hb : SimE K tb ab) : SimE K (tOrT K ta tb) (aOrV aa ab) := by
  intro σ s F C R H Q P hs hS h k
  refine ha σ s F C R H _ _ hs hS h fun x v F1 C1 H1 e1 S1 r1 h1 => ?_
  split at h1
  · rename_i q
    refine ⟨true, truth_ok S1 r1 q, ?_⟩
    rw [if_pos rfl]
    exact k x v F1 C1 H1 e1 S1 r1 h1
  · rename_i q
    refine ⟨false, truth_ok S1 r1 q, ?_⟩
    rw [if_neg Bool.false_ne_true]
    exact hb σ s F1 C1 R H1 Q P (hs.mono e1) S1 h1 fun d u F2 C2 H2 e2 S2 r2 h2 => k d u F2 C2 H2 (e1.trans e2) S2 r2 h2
  · exact h1.elim
theorem sim_notV (ha : SimE K ta aa) : SimE K (tNotT K ta) (aNotV aa) := by
  intro σ s F C R H Q P hs hS h k
  refine ha σ s F C R H _ _ hs hS h fun x v F1 C1 H1 e1 S1 r1 h1 => ?_
  split at h1
  · rename_i b q
    exact ⟨b, truth_ok S1 r1 q, k _ _ F1 C1 H1 e1 S1 (.bl _) h1⟩
  · exact h1.elim
theorem ae_one {op} (h : AE X a ta aa) : AE X (.BoolOp op [a] pos) ta aa := ⟨pe_one h.pe, h.sim⟩
theorem ae_and (h : AE X a ta aa) (g : AE X (.BoolOp .And (b :: rest) pos) tb ab) (hK : X.K = K := by rfl) : AE X (.BoolOp .And (a :: b :: rest) pos) (tAndT K ta tb) (aAndV aa ab) := by
  subst hK
  exact ⟨pe_andT h.pe g.pe, sim_andV h.sim g.sim⟩
theorem ae_or (h : AE X a ta aa) (g : AE X (.BoolOp .Or (b :: rest) pos) tb ab) (hK : X.K = K := by rfl) : AE X (.BoolOp .Or (a :: b :: rest) pos) (tOrT K ta tb) (aOrV aa ab) := by
  subst hK
  exact ⟨pe_orT h.pe g.pe, sim_orV h.sim g.sim⟩
theorem ae_not (h : AE X a ta aa) (hK : X.K = K := by rfl) : AE X (.UnaryOp .Not a pos) (tNotT K ta) (aNotV aa) := by
  subst hK
  exact ⟨pe_notT h.pe, sim_notV h.sim⟩
def aIf (t : AT') (a b : AE') : AE' := fun s C P => t s C fun c C1 => if c = true then a s C1 P else b s C1 P
theorem ae_if {c : Expr} {tc : TT} {xc : AT'} (hc : AT X c tc xc) (h : AE X a ta aa) (g : AE X b tb ab) : AE X (.IfExp c a b pos) (tIf tc ta tb) (aIf xc aa ab) := ⟨pe_ifExp hc.pt h.pe g.pe, by
  intro σ s F C R H Q P hs hS h0 k
  refine hc.sim σ s F C R H _ _ hs hS h0 fun c F1 C1 H1 e1 S1 h1 => ?_
  cases c with
  | true => exact h.sim σ s F1 C1 R H1 Q P (hs.mono e1) S1 h1 fun d u F2 C2 H2 e2 S2 r2 h2 => k d u F2 C2 H2 (e1.trans e2) S2 r2 h2
  | false => exact g.sim σ s F1 C1 R H1 Q P (hs.mono e1) S1 h1 fun d u F2 C2 H2 e2 S2 r2 h2 => k d u F2 C2 H2 (e1.trans e2) S2 r2 h2⟩
def aNeg : D → AH → (D → AH → Prop) → Prop := fun x C P => match x with | .int i => P (.int (-i)) C | _ => False
theorem ae_neg (h : AE X a ta aa) : AE X (.UnaryOp .USub a pos) (tUn (rU fun i => .int (-i)) ta) (aUn aNeg aa) := ⟨pe_un un_neg h.pe, sim_un (by
  intro v d F C R H Q P hS r h0 k
  unfold aNeg at h0
  split at h0
  · cases r; exact ⟨_, rfl, k _ _ F C H (Ex.refl F) hS (.int _) h0⟩
  · exact h0.elim) h.sim⟩
end

/-! ### arguments, displays -/
def aNil : AA' := fun _ C P => P [] C
def aCons (a : AE') (r : AA') : AA' := fun s C P => a s C fun x C1 => r s C1 fun xs C2 => P (x :: xs) C2
theorem sim_nil : SimA K 0 tNil aNil := fun σ s F C R H Q P hs hS h k => k [] [] F C H (Ex.refl F) hS .nil rfl h
theorem sim_cons {n : Nat} {ta : TE} {tr : TA} {a : AE'} {r : AA'} (ha : SimE K ta a) (hr : SimA K n tr r) : SimA K (n + 1) (tCons ta tr) (aCons a r) := by
  intro σ s F C R H Q P hs hS h k
  refine ha σ s F C R H _ _ hs hS h fun x v F1 C1 H1 e1 S1 r1 h1 => ?_
  refine hr σ s F1 C1 R H1 _ _ (hs.mono e1) S1 h1 fun xs vs F2 C2 H2 e2 S2 r2 hl h2 => ?_
  exact k (x :: xs) (v :: vs) F2 C2 H2 (e1.trans e2) S2 (.cons (r1.mono e2) r2) (by rw [List.length_cons, hl]) h2
theorem aa_nil : AA X [] 0 tNil aNil := ⟨pa_nil, sim_nil⟩
theorem aa_cons {e : Expr} {es : List Expr} {n : Nat} {te : TE} {t : TA} {a : AE'} {r : AA'} (h : AE X e te a) (g : AA X es n t r) (hs : starEach (e :: es) X.env = (false, eval e X.env) :: starEach es X.env := by rfl) : AA X (e :: es) (n + 1) (tCons te t) (aCons a r) := ⟨pa_cons h.pe g.pa hs, sim_cons h.sim g.sim⟩
def aTup (a : AA') : AE' := fun s C P => a s C fun ds C1 => ds.length ≤ sizeLine ∧ P (.tup ds) C1
def aLst (a : AA') : AE' := fun s C P => a s C fun ds C1 => ds.length ≤ sizeLine ∧ P (.lst ds) C1
def aLstM (a : AA') : AE' := fun s C P => a s C fun ds C1 => ds.length ≤ sizeLine ∧ ∀ p, C1 p = none → P (.ce p) (put C1 p (.lst ds))
theorem ae_tup {es : List Expr} {n : Nat} {t : TA} {a : AA'} {x1} (h : AA X es n t a) : AE X (.Tuple es x1 pos) (tTup t) (aTup a) := ⟨pe_tup h.pa, by
  intro σ s F C R H Q P hs hS h0 k
  refine h.sim σ s F C R H _ _ hs hS h0 fun ds vs F1 C1 H1 e1 S1 r1 hl h1 => ⟨by rw [r1.length]; exact h1.1, fun p hp => ?_⟩
  have e := Ex.new (o := .tup vs) (S1.freeF hp)
  exact k _ _ _ C1 _ (e1.trans e) (S1.newF hp _) (.tup upd_same (r1.mono e)) h1.2⟩
theorem ae_lst {es : List Expr} {n : Nat} {t : TA} {a : AA'} (h : AA X es n t a) : AE X (.List es pos) (tLst t) (aLst a) := ⟨pe_lst h.pa, by
  intro σ s F C R H Q P hs hS h0 k
  refine h.sim σ s F C R H _ _ hs hS h0 fun ds vs F1 C1 H1 e1 S1 r1 hl h1 => ⟨by rw [r1.length]; exact h1.1, fun p hp => ?_⟩
  have e := Ex.new (o := .lst vs) (S1.freeF hp)
  exact k _ _ _ C1 _ (e1.trans e) (S1.newF hp _) (.lst upd_same (r1.mono e)) h1.2⟩
theorem ae_lstM {es : List Expr} {n : Nat} {t : TA} {a : AA'} (h : AA X es n t a) : AE X (.List es pos) (tLst t) (aLstM a) := ⟨pe_lst h.pa, by
  intro σ s F C R H Q P hs hS h0 k
  refine h.sim σ s F C R H _ _ hs hS h0 fun ds vs F1 C1 H1 e1 S1 r1 hl h1 => ⟨by rw [r1.length]; exact h1.1, fun p hp => ?_⟩
  exact k _ _ F1 _ _ e1 (S1.newC hp (.lst r1)) (.ce p) (h1.2 p (S1.freeC hp))⟩
end
end AL

namespace AL
open PySem PySem.Spec L2
section
variable {X : Cx} {pos : Pos} {K : PySem.W.Frag}
/-! ### subscripts, slices -/
def asS (C : AH) : D → Option (List D)
  | .tup ds => some ds
  | d => asLr C d
def aIx : D → D → AH → (D → AH → Prop) → Prop := fun x y C P => match x, y with
  | .str z, .int i => z.length ≤ sizeLine ∧ (match atI z.cps.toList i with | some c => P (.str ⟨#[c]⟩) C | none => False)
  | x, .int i => (match asS C x with | some ds => (match atI ds i with | some d => P d C | none => False) | none => False)
  | _, _ => False
theorem RepL.atI {F : Hp} {vs : List V} {ds : List D} {i : Int} {d : D} (r : RepL K F vs ds) (h : atI ds i = some d) : ∃ v, L2.atI vs i = some v ∧ Rep K F v d := by
  unfold L2.atI at h ⊢
  rw [r.length]
  cases q : ixN ds.length i with
  | none => rw [q] at h; cases h
  | some j =>
    rw [q] at h
    obtain ⟨v, h1, h2⟩ := r.getD (show ds[j]? = some d from h)
    exact ⟨v, h1, h2⟩
theorem sim_ix : SimR2 K (rIx K) aIx := by
  intro v w d e F C R H Q P hS r1 r2 h k
  unfold aIx at h
  split at h
  · cases r1; cases r2
    obtain ⟨hz, h⟩ := h
    split at h
    · rename_i c q
      exact .inr (.inr ⟨_, _, c, rfl, rfl, hz, q, k _ _ F C H (Ex.refl F) hS (.str _) h⟩)
    · exact h.elim
  · cases r2
    split at h
    · rename_i ds q
      split at h
      · rename_i d' q2
        cases d with
        | tup us =>
          cases q
          obtain ⟨a, xs, e1, h1, h2⟩ := asT_ok hS r1 rfl
          obtain ⟨v', h3, h4⟩ := h2.atI q2
          exact .inr (.inl ⟨a, xs, _, v', e1, rfl, SqT.of h1, h3, k _ _ F C H (Ex.refl F) hS h4 h⟩)
        | _ =>
          obtain ⟨a, xs, e1, h1, h2⟩ := asLr_ok hS r1 (show asLr C _ = some ds from q)
          obtain ⟨v', h3, h4⟩ := h2.atI q2
          exact .inl ⟨a, xs, _, v', e1, rfl, h1, h3, k _ _ F C H (Ex.refl F) hS h4 h⟩
      · exact h.elim
    · exact h.elim
  · exact h.elim
theorem ae_ix {a b : Expr} {ta tb : TE} {aa ab : AE'} (ha : AE X a ta aa) (hb : AE X b tb ab) (hs : PlainIx b := by exact fun _ _ => rfl) (hK : X.K = K := by rfl) : AE X (.Subscript a b pos) (tOp (rIx K) ta tb) (aOp aIx aa ab) := by
  subst hK
  exact ⟨pe_ix ix_seq ha.pe hb.pe hs, sim_op sim_ix ha.sim hb.sim⟩

abbrev AO' := ASt → AH → (Option Int → AH → Prop) → Prop
def SimO (K : PySem.W.Frag) (to : TO) (a : AO') : Prop := ∀ (σ : L2.St) (s : ASt) (F : Hp) (C : AH) (R H : Hp) (Q : Option Int → Hp → Prop) (P : Option Int → AH → Prop), Slo K F s σ → Sat K F C R H → a s C P →
  (∀ o F' C' H', Ex F F' → Sat K F' C' R H' → P o C' → Q o H') → to σ H Q
structure AO (X : Cx) (e : Option Expr) (to : TO) (a : AO') : Prop where
  po : PO X e to
  sim : SimO X.K to a
def aNoPart : AO' := fun _ C P => P none C
def aPart (a : AE') : AO' := fun s C P => a s C fun x C1 => match x with | .int i => P (some i) C1 | _ => False
theorem ao_none : AO X none tNoPart aNoPart := ⟨po_none, fun σ s F C R H Q P hs hS h k => k none F C H (Ex.refl F) hS h⟩
theorem ao_some {e : Expr} {te : TE} {a : AE'} (h : AE X e te a) : AO X (some e) (tPart te) (aPart a) := ⟨po_some h.pe, by
  intro σ s F C R H Q P hs hS h0 k
  refine h.sim σ s F C R H _ _ hs hS h0 fun x v F1 C1 H1 e1 S1 r1 h1 => ?_
  split at h1
  · cases r1
    exact ⟨_, rfl, k _ F1 C1 H1 e1 S1 h1⟩
  · exact h1.elim⟩
def cutD (xs : List D) (lo hi : Option Int) : List D := (xs.drop (HT.sIx xs.length 0 lo)).take (HT.sIx xs.length xs.length hi - HT.sIx xs.length 0 lo)
theorem RepL.cut {F : Hp} {vs : List V} {ds : List D} (r : RepL K F vs ds) (lo hi : Option Int) : RepL K F (cutV vs lo hi) (cutD ds lo hi) := by
  unfold cutV cutD
  rw [r.length]
  exact (r.drop _).take _
def aSl (r : D → Option Int → Option Int → AH → (D → AH → Prop) → Prop) (a : AE') (l h : AO') : AE' := fun s C P => a s C fun x C1 => l s C1 fun i C2 => h s C2 fun j C3 => r x i j C3 P
def SimRS (K : PySem.W.Frag) (r : V → Option Int → Option Int → Hp → VK → Prop) (a : D → Option Int → Option Int → AH → (D → AH → Prop) → Prop) : Prop := ∀ (v : V) (d : D) (lo hi : Option Int) (F : Hp) (C : AH) (R H : Hp) (Q : VK) (P : D → AH → Prop), Sat K F C R H → Rep K F v d → a d lo hi C P →
  (∀ d v F' C' H', Ex F F' → Sat K F' C' R H' → Rep K F' v d → P d C' → Q v H') → r v lo hi H Q
theorem sim_sl {r ar} {ta : TE} {tl th : TO} {a : AE'} {l h : AO'} (hr : SimRS K r ar) (ha : SimE K ta a) (hl : SimO K tl l) (hh : SimO K th h) : SimE K (tSl r ta tl th) (aSl ar a l h) := by
  intro σ s F C R H Q P hs hS h0 k
  refine ha σ s F C R H _ _ hs hS h0 fun x v F1 C1 H1 e1 S1 r1 h1 => ?_
  refine hl σ s F1 C1 R H1 _ _ (hs.mono e1) S1 h1 fun i F2 C2 H2 e2 S2 h2 => ?_
  refine hh σ s F2 C2 R H2 _ _ (hs.mono (e1.trans e2)) S2 h2 fun j F3 C3 H3 e3 S3 h3 => ?_
  exact hr v x i j F3 C3 R H3 Q P S3 (r1.mono (e2.trans e3)) h3 fun d u F4 C4 H4 e4 S4 r4 h4 => k d u F4 C4 H4 (((e1.trans e2).trans e3).trans e4) S4 r4 h4
def aCut : D → Option Int → Option Int → AH → (D → AH → Prop) → Prop := fun x lo hi C P => match x with
  | .str z => z.length ≤ sizeLine ∧ P (.str (cutS z lo hi)) C
  | .tup ds => P (.tup (cutD ds lo hi)) C
  | x => (match asLr C x with | some ds => P (.lst (cutD ds lo hi)) C | none => False)
def rCutA (K : PySem.W.Frag) : V → Option Int → Option Int → Hp → VK → Prop := fun x lo hi H Q => (rSlS x lo hi H Q ∨ rSlA K x lo hi H Q) ∨ rSlL K x lo hi H Q
theorem cutD_all {ds : List D} {lo hi : Option Int} (h : HT.sIx ds.length 0 lo = 0 ∧ HT.sIx ds.length ds.length hi = ds.length) : cutD ds lo hi = ds := by
  unfold cutD
  rw [h.1, h.2, List.drop_zero, Nat.sub_zero, List.take_length]
theorem sim_cut : SimRS K (rCutA K) aCut := by
  intro v d lo hi F C R H Q P hS r1 h k
  unfold aCut at h
  split at h
  · cases r1
    exact .inl (.inl ⟨_, rfl, h.1, k _ _ F C H (Ex.refl F) hS (.str _) h.2⟩)
  · cases r1 with
    | @tup a xs us h1 q1 =>
      refine .inl (.inr ⟨a, xs, rfl, SqT.of (hS.ex _ _ h1), fun z => ?_, fun _ p hp => ?_⟩)
      · rw [q1.length] at z
        rw [cutD_all z] at h
        exact k _ _ F C H (Ex.refl F) hS (.tup h1 q1) h
      · have e := Ex.new (o := .tup (cutV xs lo hi)) (hS.freeF hp)
        exact k _ _ _ C _ e (hS.newF hp _) (.tup upd_same ((q1.cut lo hi).mono e)) h
  · split at h
    · rename_i ds q
      obtain ⟨a, xs, e1, h1, h2⟩ := asLr_ok hS r1 q
      refine .inr ⟨a, xs, e1, h1, fun p hp => ?_⟩
      have e := Ex.new (o := .lst (cutV xs lo hi)) (hS.freeF hp)
      exact k _ _ _ C _ e (hS.newF hp _) (.lst upd_same ((h2.cut lo hi).mono e)) h
    · exact h.elim
theorem ae_cut {e : Expr} {lo hi : Option Expr} {te : TE} {tl th : TO} {a : AE'} {l h : AO'} {p2 : Pos} (he : AE X e te a) (hl : AO X lo tl l) (hh : AO X hi th h) (hK : X.K = K := by rfl) : AE X (.Subscript e (.Slice lo hi none p2) pos) (tSl (rCutA K) te tl th) (aSl aCut a l h) := by
  subst hK
  exact ⟨pe_slice ((sl_str.or sl_tupA).or sl_list) he.pe hl.po hh.po, sim_sl sim_cut he.sim hl.sim hh.sim⟩
/-- xs[::-1], a list -/
def aRev : D → AH → (D → AH → Prop) → Prop := fun x C P => match asLr C x with | some ds => P (.lst ds.reverse) C | none => False
theorem ae_revL {e : Expr} {te : TE} {a : AE'} {k : Nat} {p1 p2 p3 : Pos} (he : AE X e te a) (hK : X.K = K := by rfl) : AE X (.Subscript e (.Slice none none (some (.UnaryOp .USub (.Constant (.int 1) k p1) p2)) p3) pos) (tRevL K te) (aUn aRev a) := by
  subst hK
  exact ⟨pe_revL he.pe, by
  intro σ s F C R H Q P hs hS h0 k
  refine he.sim σ s F C R H _ _ hs hS h0 fun x v F1 C1 H1 e1 S1 r1 h1 => ?_
  unfold aRev at h1
  split at h1
  · rename_i ds q
    obtain ⟨a, xs, e2, h2, h3⟩ := asLr_ok S1 r1 q
    refine ⟨a, xs, e2, h2, fun p hp => ?_⟩
    have e := Ex.new (o := .lst xs.reverse) (S1.freeF hp)
    exact k _ _ _ C1 _ (e1.trans e) (S1.newF hp _) (.lst upd_same (h3.reverse.mono e)) h1
  · exact h1.elim⟩

/-! ### calls of built-ins -/
structure ACa (X : Cx) (f : Value) (r : List V → Hp → VK → Prop) (a : ASp) : Prop where
  op : CallR X f r
  sim : SimRL X.K r a
def aCall (asp : ASp) (a : AA') : AE' := fun s C P => a s C fun ds C1 => asp ds C1 P
theorem sim_callB {n : Nat} {r : List V → Hp → VK → Prop} {ar : ASp} {ta : TA} {a : AA'} (hr : SimRL K r ar) (ha : SimA K n ta a) : SimE K (tCB r ta) (aCall ar a) := by
  intro σ s F C R H Q P hs hS h k
  refine ha σ s F C R H _ _ hs hS h fun ds vs F1 C1 H1 e1 S1 r1 hl h1 => ?_
  exact hr vs ds F1 C1 R H1 Q P S1 r1 h1 fun d u F3 C3 H3 e3 S3 r3 h3 => k d u F3 C3 H3 (e1.trans e3) S3 r3 h3
section
variable {e : Expr} {es : List Expr} {n : Nat} {t : TA} {a : AA'} {r : List V → Hp → VK → Prop} {ar : ASp} {x : Str} {p : Pos} {id T : String}
theorem ae_callB (hc : ACa X (.builtin id) r ar) (hm : X.mg x = none) (hv : bootBuiltins x = some (.builtin id)) (ha : AA X (e :: es) n t a) (hg : Gl X x := by rfl) (hn : x ≠ "__name__" := by decide) (hdb : (x == ("__debug__" : Str)) = false := by decide)
    (he : starEach (e :: es) X.env = (false, eval e X.env) :: starEach es X.env := by rfl) (hpl : (backTo pos (starEach es X.env)).any (·.1) = false := by rfl) : AE X (.Call (.Name x p) (e :: es) [] pos) (tCB r t) (aCall ar a) :=
  ⟨pe_callB hc.op hg hm hv ha.pa hn hdb he hpl, sim_callB hc.sim ha.sim⟩
theorem ae_callT (hc : ACa X (.type T) r ar) (hm : X.mg x = none) (hv : bootBuiltins x = some (.type T)) (ha : AA X (e :: es) n t a) (hg : Gl X x := by rfl) (hn : x ≠ "__name__" := by decide) (hdb : (x == ("__debug__" : Str)) = false := by decide)
    (he : starEach (e :: es) X.env = (false, eval e X.env) :: starEach es X.env := by rfl) (hpl : (backTo pos (starEach es X.env)).any (·.1) = false := by rfl) : AE X (.Call (.Name x p) (e :: es) [] pos) (tCB r t) (aCall ar a) :=
  ⟨pe_callTy hc.op hg hm hv ha.pa hn hdb he hpl, sim_callB hc.sim ha.sim⟩
end
theorem asS_ok {F : Hp} {C : AH} {R H : Hp} {v : V} {d : D} {ds : List D} (hS : Sat K F C R H) (r : Rep K F v d) (h : asS C d = some ds) : ∃ a xs, v = .ref a ∧ (SqL K H a xs ∨ SqT K H a xs) ∧ RepL K F xs ds := by
  cases d with
  | tup ws =>
    cases h
    obtain ⟨a, xs, e1, h1, h2⟩ := asT_ok hS r rfl
    exact ⟨a, xs, e1, .inr (SqT.of h1), h2⟩
  | _ =>
    obtain ⟨a, xs, e1, h1, h2⟩ := asLr_ok hS r (show asLr C _ = some ds from h)
    exact ⟨a, xs, e1, .inl h1, h2⟩
def aLen : ASp := fun ds C P => match ds with
  | [.str z] => z.length ≤ sizeLine ∧ P (.int z.length) C
  | [.ce q] => (match C q with | some (.lst us) => P (.int us.length) C | some (.dk us) => P (.int us.length) C | _ => False)
  | [.dk kvs] => P (.int kvs.length) C
  | [d] => (match asS C d with | some us => P (.int us.length) C | none => False)
  | _ => False
def rLenA (K : PySem.W.Frag) : List V → Hp → VK → Prop := fun xs H Q => (∃ x n, xs = [x] ∧ LenV K x H n ∧ Q (.int n) H) ∨ (∃ a kvs, xs = [V.ref a] ∧ H a = some (.dK kvs) ∧ Q (.int kvs.length) H)
theorem RepK.length {F : Hp} : ∀ {vs : List (Key × V)} {ds : List (Key × D)}, RepK K F vs ds → vs.length = ds.length
  | _, _, .nil => rfl
  | _, _, .cons _ t => by rw [List.length_cons, List.length_cons, RepK.length t]
theorem simLen : SimRL K (rLenA K) aLen := by
  intro vs ds F C R H Q P hS r h k
  unfold aLen at h
  split at h
  · cases r with | cons r1 r2 => cases r2; cases r1; exact .inl ⟨_, _, rfl, ⟨h.1, rfl⟩, k _ _ F C H (Ex.refl F) hS (.int _) h.2⟩
  · cases r with
    | cons r1 r2 =>
      cases r2; cases r1
      split at h
      · rename_i e
        obtain ⟨_, o, h1, h2⟩ := hS.cell _ _ e
        cases h2 with
        | lst q => exact .inl ⟨_, _, rfl, .inl ⟨_, SqL.of h1, q.length.symm⟩, k _ _ F C H (Ex.refl F) hS (.int _) h⟩
      · rename_i e
        obtain ⟨_, o, h1, h2⟩ := hS.cell _ _ e
        cases h2 with
        | dk q => exact .inr ⟨_, _, rfl, h1, by rw [q.length]; exact k _ _ F C H (Ex.refl F) hS (.int _) h⟩
      · exact h.elim
  · cases r with | cons r1 r2 => cases r2; cases r1 with | dk e q => exact .inr ⟨_, _, rfl, hS.ex _ _ e, by rw [q.length]; exact k _ _ F C H (Ex.refl F) hS (.int _) h⟩
  · cases r with
    | cons r1 r2 =>
      cases r2
      split at h
      · rename_i us q
        obtain ⟨a, xs, e1, h1, h2⟩ := asS_ok hS r1 q
        subst e1
        rcases h1 with h1 | h1
        · exact .inl ⟨.ref a, _, rfl, .inl ⟨xs, h1, h2.length.symm⟩, k _ _ F C H (Ex.refl F) hS (.int _) h⟩
        · exact .inl ⟨.ref a, _, rfl, .inr ⟨xs, h1, h2.length.symm⟩, k _ _ F C H (Ex.refl F) hS (.int _) h⟩
      · exact h.elim
  · exact h.elim
theorem ac_len (hK : X.K = K := by rfl) : ACa X (.builtin "len") (rLenA K) aLen := by
  subst hK
  exact ⟨call_len.or call_lenD, simLen⟩
def aAbs : ASp := fun ds C P => match ds with | [.int i] => P (.int (if i < 0 then -i else i)) C | _ => False
theorem ac_abs : ACa X (.builtin "abs") (fun xs H Q => ∃ i, xs = [.int i] ∧ Q (.int (if i < 0 then -i else i)) H) aAbs := ⟨call_abs, by
  intro vs ds F C R H Q P hS r h k
  unfold aAbs at h
  split at h
  · cases r with | cons r1 r2 => cases r2; cases r1; exact ⟨_, rfl, k _ _ F C H (Ex.refl F) hS (.int _) h⟩
  · exact h.elim⟩
def aMax2 : ASp := fun ds C P => match ds with | [.int i, .int j] => P (.int (if j > i then j else i)) C | _ => False
def aMin2 : ASp := fun ds C P => match ds with | [.int i, .int j] => P (.int (if j < i then j else i)) C | _ => False
theorem ac_max2 (hc : X.calm = true := by rfl) : ACa X (.builtin "max") (fun xs H Q => ∃ i j, xs = [.int i, .int j] ∧ Q (.int (if j > i then j else i)) H) aMax2 := ⟨call_max2 hc, by
  intro vs ds F C R H Q P hS r h k
  unfold aMax2 at h
  split at h
  · cases r with | cons r1 r2 => cases r2 with | cons r2 r3 => cases r3; cases r1; cases r2; exact ⟨_, _, rfl, k _ _ F C H (Ex.refl F) hS (.int _) h⟩
  · exact h.elim⟩
theorem ac_min2 (hc : X.calm = true := by rfl) : ACa X (.builtin "min") (fun xs H Q => ∃ i j, xs = [.int i, .int j] ∧ Q (.int (if j < i then j else i)) H) aMin2 := ⟨call_min2 hc, by
  intro vs ds F C R H Q P hS r h k
  unfold aMin2 at h
  split at h
  · cases r with | cons r1 r2 => cases r2 with | cons r2 r3 => cases r3; cases r1; cases r2; exact ⟨_, _, rfl, k _ _ F C H (Ex.refl F) hS (.int _) h⟩
  · exact h.elim⟩
def aInt : ASp := fun ds C P => match ds with | [.int i] => P (.int i) C | [.bl b] => P (.int (if b then 1 else 0)) C | _ => False
theorem ac_int : ACa X (.type "int") (fun xs H Q => (∃ i, xs = [.int i] ∧ Q (.int i) H) ∨ ∃ k, xs = [.bl k] ∧ Q (.int (if k then 1 else 0)) H) aInt := ⟨call_int1, by
  intro vs ds F C R H Q P hS r h k
  unfold aInt at h
  split at h
  · cases r with | cons r1 r2 => cases r2; cases r1; exact .inl ⟨_, rfl, k _ _ F C H (Ex.refl F) hS (.int _) h⟩
  · cases r with | cons r1 r2 => cases r2; cases r1; exact .inr ⟨_, rfl, k _ _ F C H (Ex.refl F) hS (.int _) h⟩
  · exact h.elim⟩
/-- list(xs), tuple(xs) of a list, a tuple -/
def aListOf : ASp := fun ds C P => match ds with | [d] => (match asS C d with | some us => P (.lst us) C | none => False) | _ => False
def aListM : ASp := fun ds C P => match ds with | [d] => (match asS C d with | some us => ∀ p, C p = none → P (.ce p) (put C p (.lst us)) | none => False) | _ => False
def aTupleOf : ASp := fun ds C P => match ds with | [.tup us] => P (.tup us) C | [d] => (match asS C d with | some us => P (.tup us) C | none => False) | _ => False
theorem ac_list (hK : X.K = K := by rfl) : ACa X (.type "list") (fun xs H Q => ∃ p ys, xs = [.ref p] ∧ (SqL K H p ys ∨ SqT K H p ys) ∧ ∀ l, H l = none → Q (.ref l) (upd H l (.lst ys))) aListOf := by
  subst hK
  exact ⟨call_list_of, by
  intro vs ds F C R H Q P hS r h k
  unfold aListOf at h
  split at h
  · cases r with
    | cons r1 r2 =>
      cases r2
      split at h
      · rename_i us q
        obtain ⟨a, xs, e1, h1, h2⟩ := asS_ok hS r1 q
        refine ⟨a, xs, by rw [e1], h1, fun p hp => ?_⟩
        have e := Ex.new (o := .lst xs) (hS.freeF hp)
        exact k _ _ _ C _ e (hS.newF hp _) (.lst upd_same (h2.mono e)) h
      · exact h.elim
  · exact h.elim⟩
theorem ac_listM (hK : X.K = K := by rfl) : ACa X (.type "list") (fun xs H Q => ∃ p ys, xs = [.ref p] ∧ (SqL K H p ys ∨ SqT K H p ys) ∧ ∀ l, H l = none → Q (.ref l) (upd H l (.lst ys))) aListM := by
  subst hK
  exact ⟨call_list_of, by
  intro vs ds F C R H Q P hS r h k
  unfold aListM at h
  split at h
  · cases r with
    | cons r1 r2 =>
      cases r2
      split at h
      · rename_i us q
        obtain ⟨a, xs, e1, h1, h2⟩ := asS_ok hS r1 q
        refine ⟨a, xs, by rw [e1], h1, fun p hp => ?_⟩
        exact k _ _ _ _ _ (Ex.refl F) (hS.newC hp (.lst h2)) (.ce p) (h p (hS.freeC hp))
      · exact h.elim
  · exact h.elim⟩
theorem ac_tuple (hK : X.K = K := by rfl) : ACa X (.type "tuple") (fun xs H Q => ∃ p ys, xs = [.ref p] ∧ ((SqL K H p ys ∧ ∀ l, H l = none → Q (.ref l) (upd H l (.tup ys))) ∨ (SqT K H p ys ∧ Q (.ref p) H))) aTupleOf := by
  subst hK
  exact ⟨call_tuple_of, by
  intro vs ds F C R H Q P hS r h k
  unfold aTupleOf at h
  split at h
  · cases r with
    | cons r1 r2 =>
      cases r2
      cases r1 with
      | tup h1 h2 => exact ⟨_, _, rfl, .inr ⟨SqT.of (hS.ex _ _ h1), k _ _ F C H (Ex.refl F) hS (.tup h1 h2) h⟩⟩
  · rename_i d hd
    cases r with
    | cons r1 r2 =>
      cases r2
      split at h
      · rename_i us q
        have q' : asLr C d = some us := by
          cases d <;> first | exact q | exact absurd rfl (hd _)
        obtain ⟨a, xs, e1, h1, h2⟩ := asLr_ok hS r1 q'
        refine ⟨a, xs, by rw [e1], .inl ⟨h1, fun p hp => ?_⟩⟩
        have e := Ex.new (o := .tup xs) (hS.freeF hp)
        exact k _ _ _ C _ e (hS.newF hp _) (.tup upd_same (h2.mono e)) h
      · exact h.elim
  · exact h.elim⟩
/-- all, any, sum of a list -/
def blsD : List D → Option (List Bool)
  | [] => some []
  | .bl b :: ds => (blsD ds).map (b :: ·)
  | _ => none
def intsD : List D → Option (List Int)
  | [] => some []
  | .int b :: ds => (intsD ds).map (b :: ·)
  | _ => none
def strsD : List D → Option (List Str)
  | [] => some []
  | .str b :: ds => (strsD ds).map (b :: ·)
  | _ => none
theorem bls_ok : ∀ {ds : List D} {bs : List Bool}, blsD ds = some bs → ds = bs.map .bl
  | [], _, h => by cases h; rfl
  | .bl b :: ds, bs, h => by
    simp only [blsD] at h
    cases q : blsD ds with
    | none => rw [q] at h; cases h
    | some cs => rw [q] at h; cases h; rw [bls_ok q]; rfl
  | .non :: _, _, h => by cases h
  | .int _ :: _, _, h => by cases h
  | .str _ :: _, _, h => by cases h
  | .lst _ :: _, _, h => by cases h
  | .tup _ :: _, _, h => by cases h
  | .dk _ :: _, _, h => by cases h
  | .scr _ :: _, _, h => by cases h
  | .ce _ :: _, _, h => by cases h
theorem ints_ok : ∀ {ds : List D} {bs : List Int}, intsD ds = some bs → ds = bs.map .int
  | [], _, h => by cases h; rfl
  | .int b :: ds, bs, h => by
    simp only [intsD] at h
    cases q : intsD ds with
    | none => rw [q] at h; cases h
    | some cs => rw [q] at h; cases h; rw [ints_ok q]; rfl
  | .non :: _, _, h => by cases h
  | .bl _ :: _, _, h => by cases h
  | .str _ :: _, _, h => by cases h
  | .lst _ :: _, _, h => by cases h
  | .tup _ :: _, _, h => by cases h
  | .dk _ :: _, _, h => by cases h
  | .scr _ :: _, _, h => by cases h
  | .ce _ :: _, _, h => by cases h
theorem strs_ok : ∀ {ds : List D} {bs : List Str}, strsD ds = some bs → ds = bs.map .str
  | [], _, h => by cases h; rfl
  | .str b :: ds, bs, h => by
    simp only [strsD] at h
    cases q : strsD ds with
    | none => rw [q] at h; cases h
    | some cs => rw [q] at h; cases h; rw [strs_ok q]; rfl
  | .non :: _, _, h => by cases h
  | .bl _ :: _, _, h => by cases h
  | .int _ :: _, _, h => by cases h
  | .lst _ :: _, _, h => by cases h
  | .tup _ :: _, _, h => by cases h
  | .dk _ :: _, _, h => by cases h
  | .scr _ :: _, _, h => by cases h
  | .ce _ :: _, _, h => by cases h
@[simp] theorem bls_map (bs : List Bool) : blsD (bs.map D.bl) = some bs := by
  induction bs with
  | nil => rfl
  | cons b bs ih => simp [blsD, ih]
@[simp] theorem ints_map (bs : List Int) : intsD (bs.map D.int) = some bs := by
  induction bs with
  | nil => rfl
  | cons b bs ih => simp [intsD, ih]
@[simp] theorem strs_map (bs : List Str) : strsD (bs.map D.str) = some bs := by
  induction bs with
  | nil => rfl
  | cons b bs ih => simp [strsD, ih]
def aAll : ASp := fun ds C P => match ds with | [d] => (match (asLr C d).bind blsD with | some bs => P (.bl (bs.all id)) C | none => False) | _ => False
def aAny : ASp := fun ds C P => match ds with | [d] => (match (asLr C d).bind blsD with | some bs => P (.bl (bs.any id)) C | none => False) | _ => False
def aSum : ASp := fun ds C P => match ds with | [d] => (match (asLr C d).bind intsD with | some bs => P (.int bs.sum) C | none => False) | _ => False
theorem ac_all (hc : X.calm = true := by rfl) (hK : X.K = K := by rfl) : ACa X (.builtin "all") (rAll K) aAll := by
  subst hK
  exact ⟨cr_all hc, by
  intro vs ds F C R H Q P hS r h k
  unfold aAll at h
  split at h
  · cases r with
    | cons r1 r2 =>
      cases r2
      split at h
      · rename_i bs q
        obtain ⟨us, q1, q2⟩ := Option.bind_eq_some_iff.mp q
        obtain ⟨a, xs, e1, h1, h2⟩ := asLr_ok hS r1 q1
        rw [bls_ok q2] at h2
        have e3 := h2.ofBls
        subst e3
        exact ⟨a, bs, by rw [e1], h1, k _ _ F C H (Ex.refl F) hS (.bl _) h⟩
      · exact h.elim
  · exact h.elim⟩
theorem ac_any (hc : X.calm = true := by rfl) (hK : X.K = K := by rfl) : ACa X (.builtin "any") (rAny K) aAny := by
  subst hK
  exact ⟨cr_any hc, by
  intro vs ds F C R H Q P hS r h k
  unfold aAny at h
  split at h
  · cases r with
    | cons r1 r2 =>
      cases r2
      split at h
      · rename_i bs q
        obtain ⟨us, q1, q2⟩ := Option.bind_eq_some_iff.mp q
        obtain ⟨a, xs, e1, h1, h2⟩ := asLr_ok hS r1 q1
        rw [bls_ok q2] at h2
        have e3 := h2.ofBls
        subst e3
        exact ⟨a, bs, by rw [e1], h1, k _ _ F C H (Ex.refl F) hS (.bl _) h⟩
      · exact h.elim
  · exact h.elim⟩
theorem ac_sum (hc : X.calm = true := by rfl) (hK : X.K = K := by rfl) : ACa X (.builtin "sum") (rSum K) aSum := by
  subst hK
  exact ⟨cr_sum hc, by
  intro vs ds F C R H Q P hS r h k
  unfold aSum at h
  split at h
  · cases r with
    | cons r1 r2 =>
      cases r2
      split at h
      · rename_i bs q
        obtain ⟨us, q1, q2⟩ := Option.bind_eq_some_iff.mp q
        obtain ⟨a, xs, e1, h1, h2⟩ := asLr_ok hS r1 q1
        rw [ints_ok q2] at h2
        have e3 := h2.ofInts
        subst e3
        exact ⟨a, bs, by rw [e1], h1, k _ _ F C H (Ex.refl F) hS (.int _) h⟩
      · exact h.elim
  · exact h.elim⟩
/-! ### isinstance(e, T) -/
def kindOf (C : AH) : D → Option String
  | .non => some "NoneType" | .bl _ => some "bool" | .int _ => some "int" | .str _ => some "str" | .lst _ => some "list" | .tup _ => some "tuple" | .dk _ => some "dict" | .scr _ => some "list"
  | .ce p => match C p with | some (.lst _) => some "list" | some (.dk _) => some "dict" | some (.dt _) => some "dict" | none => none
theorem kindOf_ok {F : Hp} {C : AH} {R H : Hp} {v : V} {d : D} {t : String} (hS : Sat K F C R H) (r : Rep K F v d) (h : kindOf C d = some t) : TyX K H v (.type t) := by
  cases r with
  | non => cases h; exact .base .non
  | bl b => cases h; exact .base (.bl b)
  | int i => cases h; exact .base (.int i)
  | str x => cases h; exact .base (.str x)
  | lst e q => cases h; exact .base (.lst (hS.ex _ _ e))
  | tup e q => cases h; exact .base (.tup (hS.ex _ _ e))
  | dk e q => cases h; exact .base (.dK (hS.ex _ _ e))
  | scr e =>
    cases h
    rcases hS.ex.l e with (e | ⟨o, e⟩) | ⟨o, its, n, e, c, _⟩
    · exact .base (.lst e)
    · exact .base (.frz e)
    · exact .kList e c
  | ce p =>
    simp only [kindOf] at h
    split at h
    · rename_i e; cases h
      obtain ⟨_, o, h1, h2⟩ := hS.cell p _ e
      cases h2; exact .base (.lst h1)
    · rename_i e; cases h
      obtain ⟨_, o, h1, h2⟩ := hS.cell p _ e
      cases h2; exact .base (.dK h1)
    · rename_i e; cases h
      obtain ⟨_, o, h1, h2⟩ := hS.cell p _ e
      cases h2
    · cases h
def isT (T t : String) : Bool := t == T || (t == "bool" && T == "int")
theorem isT_ok : ∀ t ∈ ["NoneType", "bool", "int", "str", "list", "tuple", "dict"], ∀ T ∈ ["bool", "int", "str", "list", "tuple", "dict"], kitB t T = some (isT T t) := by decide +kernel
theorem kindOf_mem {C : AH} {d : D} {t : String} (h : kindOf C d = some t) : t ∈ ["NoneType", "bool", "int", "str", "list", "tuple", "dict"] := by
  unfold kindOf at h
  split at h <;> first | (cases h; decide) | (split at h <;> first | (cases h; decide) | cases h)
def aIsi (T : String) (a : AE') : AE' := fun s C P => a s C fun x C1 => match kindOf C1 x with | some t => P (.bl (isT T t)) C1 | none => False
theorem ae_isi {e : Expr} {te : TE} {a : AE'} {T : Str} {Tn : String} {p p2 : Pos} (h : AE X e te a) (hm : X.mg "isinstance" = none) (hmT : X.mg T = none) (hv : bootBuiltins T = some (.type Tn)) (hT : Tn ∈ ["bool", "int", "str", "list", "tuple", "dict"] := by decide)
    (hg : Gl X "isinstance" := by rfl) (hgT : Gl X T := by rfl) (hb : bootBuiltins "isinstance" = some (.builtin "isinstance") := by decide +kernel) (hnT : T ≠ "__name__" := by decide) (hdT : (T == ("__debug__" : Str)) = false := by decide)
    (he : starEach [e, .Name T p2] X.env = (false, eval e X.env) :: starEach [.Name T p2] X.env := by rfl) (hpl : (backTo pos (starEach [.Name T p2] X.env)).any (·.1) = false := by rfl) (h2 : starEach [.Name T p2] X.env = (false, eval (.Name T p2) X.env) :: starEach [] X.env := by rfl) (hK : X.K = K := by rfl) :
    AE X (.Call (.Name "isinstance" p) [e, .Name T p2] [] pos) (tCB (rIsi K) (tCons te (tCons (tC (.ty Tn)) tNil))) (aIsi Tn a) := by
  subst hK
  exact ⟨pe_callB call_isi hg hm hb (pa_cons h.pe (pa_cons (pe_bltn hgT hmT hv rfl hnT hdT) pa_nil h2) he) (by decide) (by decide) he hpl, by
    intro σ s F C R H Q P hs hS h0 k
    refine h.sim σ s F C R H _ _ hs hS h0 fun x v F1 C1 H1 e1 S1 r1 h1 => ?_
    split at h1
    · rename_i t q
      exact ⟨v, .ty Tn, .type t, .type Tn, isT Tn t, rfl, .ty Tn, kindOf_ok S1 r1 q, kit_ty (isT_ok t (kindOf_mem q) Tn hT), k _ _ F1 C1 H1 e1 S1 (.bl _) h1⟩
    · exact h1.elim⟩
end
end AL

namespace AL
open PySem PySem.Spec L2
open PyProof.Rows (envOfC)
section
variable {X : Cx} {pos : Pos} {K : PySem.W.Frag}
/-! ### defs and their calls -/
def spOf (K : PySem.W.Frag) (n : Nat) (asp : ASp) : Sp := fun vs H Q _ => vs.length = n ∧ ∃ F C R ds P, Sat K F C R H ∧ RepL K F vs ds ∧ asp ds C P ∧ ∀ d v F' C' H', Ex F F' → Sat K F' C' R H' → Rep K F' v d → P d C' → Q v H'
structure Cal (P : Program) (w : World) (K : PySem.W.Frag) (mg : Str → Option Value) (base : Heap) (k : Nat) (x : Str) (n : Nat) (asp : ASp) : Prop where
  ex : ∃ (f : Addr) (fd : FuncData) (ps : List Str), FnOk P w K mg base CX0 k f fd ps (spOf K n asp) ∧ mg x = some (.ref f) ∧ PySem.W.keepIn K (.ref f) = true ∧ Binds K fd ps []
theorem sim_call {n : Nat} {asp : ASp} {E : XK} {ta : TA} {a : AA'} (ha : SimA K n ta a) : SimE K (tCall (spOf K n asp) [] E ta) (aCall asp a) := by
  intro σ s F C R H Q P hs hS h k
  refine ha σ s F C R H _ _ hs hS h fun ds vs F1 C1 H1 e1 S1 r1 hl h1 => ?_
  refine ⟨by rw [List.append_nil, r1.length, hl], F1, C1, R, ds, P, S1, by rw [List.append_nil]; exact r1, h1, fun d v F' C' H' e2 S2 r2 h2 => k d v F' C' H' (e1.trans e2) S2 r2 h2⟩
section
variable {e : Expr} {es : List Expr} {n : Nat} {t : TA} {a : AA'} {x : Str} {p : Pos} {asp : ASp} {k j : Nat}
theorem ae_call (c : Cal X.prog X.w X.K X.mg X.base k x n asp) (hr : Room j X.A) (ha : AA X (e :: es) n t a) (hk : k ≤ j := by decide) (hg : Gl X x := by rfl)
    (hdb : (x == ("__debug__" : Str)) = false := by decide) (he : starEach (e :: es) X.env = (false, eval e X.env) :: starEach es X.env := by rfl) (hpl : (backTo pos (starEach es X.env)).any (·.1) = false := by rfl) (hK : X.K = K := by rfl) :
    AE X (.Call (.Name x p) (e :: es) [] pos) (tCall (spOf K n asp) [] E0 t) (aCall asp a) := by
  subst hK
  exact ⟨by
  obtain ⟨f, fd, ps, F, hm, kp, b⟩ := c.ex
  exact pe_call F (hr.mono hk) hg hm kp b .nil pass0 ha.pa hdb he hpl, sim_call ha.sim⟩
theorem ae_call0 (c : Cal X.prog X.w X.K X.mg X.base k x 0 asp) (hr : Room j X.A) (hk : k ≤ j := by decide) (hg : Gl X x := by rfl)
    (hdb : (x == ("__debug__" : Str)) = false := by decide) (hK : X.K = K := by rfl) : AE X (.Call (.Name x p) [] [] pos) (tCall (spOf K 0 asp) [] E0 tNil) (aCall asp aNil) := by
  subst hK
  exact ⟨by
  obtain ⟨f, fd, ps, F, hm, kp, b⟩ := c.ex
  exact pe_call0 F (hr.mono hk) hg hm kp b .nil pass0 hdb, sim_call sim_nil⟩
end
/-- a def's body as what the def does -/
def aBody (n : Nat) (b : AS') : ASp := fun ds C P => b ⟨fun _ C' => P .non C', P, fun _ _ => False, fun _ _ => False⟩ (ds.map some ++ List.replicate (n - ds.length) none) C
theorem fnA {P : Program} {w : World} {K : PySem.W.Frag} {mg : Str → Option Value} {base : Heap} {x qual : Str} {st : Stmt} {f : Addr} {fd : FuncData} {N ps : List Str} {k : Nat} {b : AS'} {asp : ASp} (F : L2.Fun K x qual st f fd) (S : FnScope N ps (defScope st))
    (hbody : ∀ (cdv : Value) (A : Around) (outer : List Env) (s : Shared) (H : Hp) (E : XK), Room k (A.deeper (envOfC qual (defScope st) s.heap.objs.size f cdv)) → ∃ ts, ASs (cxOf CX0 P w K mg base N qual (defScope st) f cdv A outer s H E).nox (defBody st) ts b)
    (h : ∀ ds C P, ds.length = ps.length → asp ds C P → aBody N.length b ds C P) : FnOk P w K mg base CX0 (k + 1) f fd ps (spOf K ps.length asp) := by
  refine F.ok S (fun vs H Q E z => z.1) (fun cdv A outer s H vs Q E hr z => ?_)
  obtain ⟨ts, hps⟩ := hbody cdv A outer s H E hr
  obtain ⟨hl, F1, C, R, ds, P1, hS, hR, ha, hk⟩ := z
  refine ⟨ts, hps.ps, ?_⟩
  have hb := h ds C P1 (by rw [← hR.length, hl]) ha
  refine hps.sim { nx := fun _ H' => Q .non H', rt := Q } ⟨fun _ C' => P1 .non C', P1, fun _ _ => False, fun _ _ => False⟩ _ _ F1 C R H ⟨fun s σ F' C' H' e _ S h => ?_, fun d v F' C' H' e r S h => ?_, fun _ _ _ _ _ _ _ _ h => h.elim, fun _ _ _ _ _ _ _ _ h => h.elim⟩ (Slo.start hR N.length) hS hb
  · exact hk .non .non F' C' H' e S .non h
  · exact hk d v F' C' H' e S r h
theorem calA {P : Program} {w : World} {K : PySem.W.Frag} {mg : Str → Option Value} {base : Heap} {x qual : Str} {st : Stmt} {f : Addr} {fd : FuncData} {N ps : List Str} {k n : Nat} {b : AS'} {asp : ASp} (F : L2.Fun K x qual st f fd) (S : FnScope N ps (defScope st)) (hn : ps.length = n) (hm : mg x = some (.ref f)) (hb : Binds K fd ps [])
    (hbody : ∀ (cdv : Value) (A : Around) (outer : List Env) (s : Shared) (H : Hp) (E : XK), Room k (A.deeper (envOfC qual (defScope st) s.heap.objs.size f cdv)) → ∃ ts, ASs (cxOf CX0 P w K mg base N qual (defScope st) f cdv A outer s H E).nox (defBody st) ts b)
    (h : ∀ ds C P, ds.length = n → asp ds C P → aBody N.length b ds C P) : Cal P w K mg base (k + 1) x n asp := by
  subst hn
  exact ⟨f, fd, ps, fnA F S hbody h, hm, F.kp, hb⟩

/-! ### methods of built-in types -/
structure AMt (X : Cx) (id : String) (r : V → List V → Hp → VK → Prop) (a : D → ASp) : Prop where
  op : MtR X id r
  sim : SimRM X.K r a
def isTy (T : String) (C : AH) (d : D) : Bool := match d with
  | .str _ => T == "str"
  | .lst _ => T == "list"
  | .scr _ => T == "list"
  | .dk _ => T == "dict"
  | .ce p => (match C p with | some (.lst _) => T == "list" | some (.dk _) => T == "dict" | _ => false)
  | _ => false
theorem isTy_ok {F : Hp} {C : AH} {R H : Hp} {v : V} {d : D} {T : String} (hS : Sat K F C R H) (r : Rep K F v d) (h : isTy T C d = true) : tyV K T v H := by
  cases r with
  | str x => simpa [isTy, tyV] using h
  | lst e q => exact .inl ⟨by simpa [isTy] using h, _, SqL.of (hS.ex _ _ e)⟩
  | scr e => exact .inl ⟨by simpa [isTy] using h, _, hS.ex.l e⟩
  | dk e q => exact .inr (.inr (.inl ⟨by simpa [isTy] using h, .inl ⟨_, hS.ex _ _ e⟩⟩))
  | ce p =>
    simp only [isTy] at h
    split at h
    · rename_i e
      obtain ⟨_, o, h1, h2⟩ := hS.cell p _ e
      cases h2; exact .inl ⟨by simpa using h, _, SqL.of h1⟩
    · rename_i e
      obtain ⟨_, o, h1, h2⟩ := hS.cell p _ e
      cases h2; exact .inr (.inr (.inl ⟨by simpa using h, .inl ⟨_, h1⟩⟩))
    · cases h
  | _ => cases h
def aMeth (T : String) (m : D → ASp) (o : AE') (a : AA') : AE' := fun s C P => o s C fun x C1 => isTy T C1 x = true ∧ a s C1 fun ds C2 => m x ds C2 P
def aMeth0 (T : String) (m : D → ASp) (o : AE') : AE' := fun s C P => o s C fun x C1 => isTy T C1 x = true ∧ m x [] C1 P
section
variable {o e : Expr} {es : List Expr} {n : Nat} {to : TE} {t : TA} {ao : AE'} {a : AA'} {T id : String} {name : Str} {r : V → List V → Hp → VK → Prop} {ar : D → ASp} {apos cpos : Pos}
theorem ae_meth (pa : PlainAttrs T) (slot : Slot T name id) (hty : typeOf (.builtin id) = pure (.type "method_descriptor")) (hm : AMt X id r ar) (ho : AE X o to ao) (ha : AA X (e :: es) n t a)
    (hbase : attributeBase o name X.env (eval o X.env) = eval o X.env := by rfl)
    (hfew : ((backTo cpos (starEach (e :: es) X.env)).all (fun x => !x.1) && (backToKw cpos (keywordEach [] X.env)).all (fun x => x.1.isSome)
      && decide ((e :: es).length + ([] : List Keyword).length + (if ([] : List Keyword).isEmpty then 0 else 1) < 30)) = true := by rfl)
    (hline : (apos.endLine == cpos.line) = true := by rfl) (hs : starEach (e :: es) X.env = (false, eval e X.env) :: starEach es X.env := by rfl) (hplain : (backTo cpos (starEach es X.env)).any (·.1) = false := by rfl) (hK : X.K = K := by rfl) :
    AE X (.Call (.Attribute o name apos) (e :: es) [] cpos) (tBM K T r to t) (aMeth T ar ao a) := by
  subst hK
  exact ⟨pe_bm pa slot hty hm.op ho.pe ha.pa hbase hfew hline hs hplain, by
  intro σ s F C R H Q P hs hS h0 k
  refine ho.sim σ s F C R H _ _ hs hS h0 fun x v F1 C1 H1 e1 S1 r1 h1 => ⟨isTy_ok S1 r1 h1.1, ?_⟩
  refine ha.sim σ s F1 C1 R H1 _ _ (hs.mono e1) S1 h1.2 fun ds vs F2 C2 H2 e2 S2 r2 hl h2 => ?_
  exact hm.sim v x vs ds F2 C2 R H2 Q P S2 (r1.mono e2) r2 h2 fun d u F3 C3 H3 e3 S3 r3 h3 => k d u F3 C3 H3 ((e1.trans e2).trans e3) S3 r3 h3⟩
theorem ae_meth0 (pa : PlainAttrs T) (slot : Slot T name id) (hty : typeOf (.builtin id) = pure (.type "method_descriptor")) (hm : AMt X id r ar) (ho : AE X o to ao)
    (hbase : attributeBase o name X.env (eval o X.env) = eval o X.env := by rfl) (hline : (apos.endLine == cpos.line) = true := by rfl) (hK : X.K = K := by rfl) :
    AE X (.Call (.Attribute o name apos) [] [] cpos) (tBM0 K T r to) (aMeth0 T ar ao) := by
  subst hK
  exact ⟨pe_bm0 pa slot hty hm.op ho.pe hbase hline, by
  intro σ s F C R H Q P hs hS h0 k
  refine ho.sim σ s F C R H _ _ hs hS h0 fun x v F1 C1 H1 e1 S1 r1 h1 => ⟨isTy_ok S1 r1 h1.1, ?_⟩
  exact hm.sim v x [] [] F1 C1 R H1 Q P S1 r1 .nil h1.2 fun d u F3 C3 H3 e3 S3 r3 h3 => k d u F3 C3 H3 (e1.trans e3) S3 r3 h3⟩
end
theorem cellL {F : Hp} {C : AH} {R H : Hp} {p : Addr} {ds : List D} (hS : Sat K F C R H) (e : C p = some (.lst ds)) : ∃ xs, H p = some (.lst xs) ∧ RepL K F xs ds := by
  obtain ⟨_, o, h1, h2⟩ := hS.cell p _ e
  cases h2
  exact ⟨_, h1, by assumption⟩
def aAppend : D → ASp := fun x ds C P => match x, ds with
  | .ce p, [d] => (match C p with | some (.lst us) => us.length < sizeLine ∧ P .non (put C p (.lst (us ++ [d]))) | _ => False)
  | _, _ => False
theorem am_append : AMt X "list.append" rAppend aAppend := ⟨fun pins s σ H x xs v us Q I r1 r2 h => mt_append pins s σ H x xs v us Q I r1 r2 h, by
  intro v d vs ds F C R H Q P hS r1 r2 h k
  unfold aAppend at h
  split at h
  · cases r1
    cases r2 with
    | cons r2 r3 =>
      cases r3
      split at h
      · rename_i e
        obtain ⟨xs, h1, h2⟩ := cellL hS e
        exact ⟨_, xs, _, rfl, rfl, h1, by rw [h2.length]; exact h.1, k _ _ F _ _ (Ex.refl F) (hS.mutC e (.lst (h2.append (.cons r2 .nil)))) .non h.2⟩
      · exact h.elim
  · exact h.elim⟩
/-- xs.extend(ys), ys a list -/
def aExtend : D → ASp := fun x ds C P => match x, ds with
  | .ce p, [d] => (match C p, asL C d with | some (.lst us), some ws => us.length + ws.length ≤ sizeLine ∧ P .non (put C p (.lst (us ++ ws))) | _, _ => False)
  | _, _ => False
theorem am_extend : AMt X "list.extend" rExtend aExtend := ⟨fun pins s σ H x xs v us Q I r1 r2 h => mt_extend pins s σ H x xs v us Q I r1 r2 h, by
  intro v d vs ds F C R H Q P hS r1 r2 h k
  unfold aExtend at h
  split at h
  · cases r1
    cases r2 with
    | cons r2 r3 =>
      cases r3
      split at h
      · rename_i e e2
        obtain ⟨xs, h1, h2⟩ := cellL hS e
        obtain ⟨a, ys, e3, h3, h4⟩ := asL_ok hS r2 e2
        exact ⟨_, a, xs, ys, rfl, by rw [e3], h1, h3, by rw [h2.length, h4.length]; exact h.1, k _ _ F _ _ (Ex.refl F) (hS.mutC e (.lst (h2.append h4))) .non h.2⟩
      · exact h.elim
  · exact h.elim⟩
def aPop : D → ASp := fun x ds C P => match x, ds with
  | .ce p, [] => (match C p with | some (.lst us) => (match us[us.length - 1]? with | some d => P d (put C p (.lst us.dropLast)) | none => False) | _ => False)
  | _, _ => False
theorem am_pop : AMt X "list.pop" rPop aPop := ⟨fun pins s σ H x xs v us Q I r1 r2 h => mt_pop pins s σ H x xs v us Q I r1 r2 h, by
  intro v d vs ds F C R H Q P hS r1 r2 h k
  unfold aPop at h
  split at h
  · cases r1
    cases r2
    split at h
    · rename_i us e
      split at h
      · rename_i d e2
        obtain ⟨xs, h1, h2⟩ := cellL hS e
        obtain ⟨u, h3, h4⟩ := h2.getD e2
        exact ⟨_, xs, u, rfl, rfl, h1, by rw [h2.length]; exact h3, k _ _ F _ _ (Ex.refl F) (hS.mutC e (.lst h2.dropLast)) h4 h⟩
      · exact h.elim
    · exact h.elim
  · exact h.elim⟩
def aPopAt : D → ASp := fun x ds C P => match x, ds with
  | .ce p, [.int i] => (match C p with | some (.lst us) => -(2 ^ 63) ≤ i ∧ i < 2 ^ 63 ∧ (match seqIndex? i us.length with | some k => (match us[k]? with | some d => P d (put C p (.lst (us.eraseIdx k))) | none => False) | none => False) | _ => False)
  | _, _ => False
theorem am_popAt : AMt X "list.pop" rPopAt aPopAt := ⟨fun pins s σ H x xs v us Q I r1 r2 h => mt_popAt pins s σ H x xs v us Q I r1 r2 h, by
  intro v d vs ds F C R H Q P hS r1 r2 h k
  unfold aPopAt at h
  split at h
  · cases r1
    cases r2 with
    | cons r2 r3 =>
      cases r3; cases r2
      split at h
      · rename_i us e
        obtain ⟨b1, b2, h⟩ := h
        split at h
        · rename_i j ej
          split at h
          · rename_i d e2
            obtain ⟨xs, h1, h2⟩ := cellL hS e
            obtain ⟨u, h3, h4⟩ := h2.getD e2
            exact ⟨_, xs, _, j, u, rfl, rfl, h1, b1, b2, by rw [h2.length]; exact ej, h3, k _ _ F _ _ (Ex.refl F) (hS.mutC e (.lst (h2.erase j))) h4 h⟩
          · exact h.elim
        · exact h.elim
      · exact h.elim
  · exact h.elim⟩

/-! ### what is walked -/
theorem walk_l {F : Hp} {a : Addr} {ds : List D} {hold : AH → Prop} (h : ∀ F' C' R' H', Ex F F' → Sat K F' C' R' H' → hold C' → ∃ xs, SqL K H' a xs ∧ RepL K F' xs ds) : Walks K F ds hold (Itl K a) := by
  refine ⟨fun F' C' R' H' e S hc => ?_, fun F' C' R' H' i e S hc hi => ?_, fun F' C' R' H' i x H'' e S hc hi y => ?_⟩
  · obtain ⟨xs, h1, h2⟩ := h F' C' R' H' e S hc
    exact ⟨xs, h1, by rw [h2.length]; exact Nat.le_refl _⟩
  · obtain ⟨xs, h1, h2⟩ := h F' C' R' H' e S hc
    exact ⟨xs, xs[i]'(by rw [h2.length]; exact hi), h1, by simp⟩
  · obtain ⟨xs, h1, h2⟩ := h F' C' R' H' e S hc
    obtain ⟨e1, y⟩ := y
    subst e1
    obtain ⟨d, h3, h4⟩ := h2.get (y xs h1)
    exact ⟨d, F', h3, Ex.refl F', S, h4⟩
theorem asL_later {F F' : Hp} {C C' : AH} {R R' H H' : Hp} {v : V} {d : D} {ds : List D} (hS : Sat K F C R H) (r : Rep K F v d) (h : asLr C d = some ds) (e : Ex F F') (S' : Sat K F' C' R' H') (hc : asLr C' d = some ds) : ∀ a, v = .ref a → ∃ xs, SqL K H' a xs ∧ RepL K F' xs ds := by
  intro a ea
  obtain ⟨b, xs, e1, h1, h2⟩ := asLr_ok S' (r.mono e) hc
  rw [ea] at e1
  cases e1
  exact ⟨xs, h1, h2⟩
/-- for x in a list -/
def aIL (a : AE') : AI' := fun s C P => a s C fun x C1 => match asLr C1 x with | some ds => P ds (fun C' => asLr C' x = some ds) C1 | none => False
theorem ai_list {tg e : Expr} {te : TE} {a : AE'} (h : AE X e te a) (hK : X.K = K := by rfl) : AI X tg e (iList K te) (aIL a) := by
  subst hK
  exact ⟨pi_list h.pe, by
  intro σ s F C R H Q P hs hS h0 k
  refine h.sim σ s F C R H _ _ hs hS h0 fun x v F1 C1 H1 e1 S1 r1 h1 => ?_
  split at h1
  · rename_i ds q
    obtain ⟨b, xs, e2, h2, h3⟩ := asLr_ok S1 r1 q
    exact ⟨b, e2, ⟨xs, h2⟩, k ds _ _ F1 C1 H1 e1 S1 (walk_l fun F' C' R' H' e' S' hc => asL_later S1 r1 q e' S' hc b e2) h1⟩
  · exact h1.elim⟩
/-- for x in a tuple -/
def aIT (a : AE') : AI' := fun s C P => a s C fun x C1 => match asT x with | some ds => P ds (fun _ => True) C1 | none => False
theorem ai_tup {tg e : Expr} {te : TE} {a : AE'} (h : AE X e te a) (hK : X.K = K := by rfl) : AI X tg e (iTup K te) (aIT a) := by
  subst hK
  exact ⟨pi_tup h.pe, by
  intro σ s F C R H Q P hs hS h0 k
  refine h.sim σ s F C R H _ _ hs hS h0 fun x v F1 C1 H1 e1 S1 r1 h1 => ?_
  split at h1
  · rename_i ds q
    obtain ⟨b, xs, e2, h2, h3⟩ := asT_ok S1 r1 q
    refine ⟨b, e2, ⟨xs, SqT.of h2⟩, k ds _ _ F1 C1 H1 e1 S1 ⟨fun F' C' R' H' e S _ => ?_, fun F' C' R' H' i e S _ hi => ?_, fun F' C' R' H' i x H'' e S _ hi y => ?_⟩ h1⟩
    · obtain ⟨b', xs', e2', h2', h3'⟩ := asT_ok S (r1.mono e) q
      rw [e2] at e2'; cases e2'
      exact ⟨xs', SqT.of h2', by rw [h3'.length]; exact Nat.le_refl _⟩
    · obtain ⟨b', xs', e2', h2', h3'⟩ := asT_ok S (r1.mono e) q
      rw [e2] at e2'; cases e2'
      exact ⟨xs', xs'[i]'(by rw [h3'.length]; exact hi), SqT.of h2', by simp⟩
    · obtain ⟨b', xs', e2', h2', h3'⟩ := asT_ok S (r1.mono e) q
      rw [e2] at e2'; cases e2'
      obtain ⟨e3, y⟩ := y
      subst e3
      obtain ⟨d, h4, h5⟩ := h3'.get (y xs' (SqT.of h2'))
      exact ⟨d, F', h4, Ex.refl F', S, h5⟩
  · exact h1.elim⟩
def rangeD (lo : Int) (n : Nat) : List D := (List.range n).map fun (i : Nat) => D.int (lo + i)
theorem rangeD_get {lo : Int} {n i : Nat} (h : i < n) : (rangeD lo n)[i]? = some (.int (lo + i)) := by
  unfold rangeD
  rw [List.getElem?_map, List.getElem?_range h]
  rfl
theorem rangeD_len (lo : Int) (n : Nat) : (rangeD lo n).length = n := by
  unfold rangeD
  rw [List.length_map, List.length_range]
theorem walk_r {F : Hp} (lo : Int) (n : Nat) : Walks K F (rangeD lo n) (fun _ => True) (Itr lo n) := by
  refine ⟨fun F' C' R' H' e S _ => ?_, fun F' C' R' H' i e S _ hi => ?_, fun F' C' R' H' i x H'' e S _ hi y => ?_⟩
  · rw [rangeD_len]; exact Nat.le_refl _
  · rw [rangeD_len] at hi; exact hi
  · rw [rangeD_len] at hi
    obtain ⟨e1, y⟩ := y
    subst e1; subst y
    exact ⟨_, F', rangeD_get hi, Ex.refl F', S, .int _⟩
def aIR1 (a : AA') : AI' := fun s C P => a s C fun ds C1 => match ds with | [.int j] => -(2 ^ 62) ≤ j ∧ j < 2 ^ 62 ∧ P (rangeD 0 j.toNat) (fun _ => True) C1 | _ => False
def aIR2 (a : AA') : AI' := fun s C P => a s C fun ds C1 => match ds with | [.int i, .int j] => (-(2 ^ 62) ≤ i ∧ i < 2 ^ 62 ∧ -(2 ^ 62) ≤ j ∧ j < 2 ^ 62) ∧ P (rangeD i (j - i).toNat) (fun _ => True) C1 | _ => False
theorem ai_range1 {tg e : Expr} {n : Nat} {ta : TA} {a : AA'} {p : Pos} (hm : X.mg "range" = none) (h : AA X [e] n ta a) (hg : Gl X "range" := by rfl) (hs : starEach [e] X.env = [(false, eval e X.env)] := by rfl) : AI X tg (.Call (.Name "range" p) [e] [] pos) (iRng1 ta) (aIR1 a) := ⟨pi_range1 hg hm h.pa hs, by
  intro σ s F C R H Q P hs hS h0 k
  refine h.sim σ s F C R H _ _ hs hS h0 fun ds vs F1 C1 H1 e1 S1 r1 hl h1 => ?_
  split at h1
  · cases r1 with | cons r1 r2 => cases r2; cases r1; exact ⟨_, rfl, h1.1, h1.2.1, k _ _ _ F1 C1 H1 e1 S1 (walk_r 0 _) h1.2.2⟩
  · exact h1.elim⟩
theorem ai_range2 {tg e e2 : Expr} {n : Nat} {ta : TA} {a : AA'} {p : Pos} (hm : X.mg "range" = none) (h : AA X [e, e2] n ta a) (hg : Gl X "range" := by rfl) (hs : starEach [e, e2] X.env = [(false, eval e X.env), (false, eval e2 X.env)] := by rfl) (hs2 : starEach [e2] X.env = [(false, eval e2 X.env)] := by rfl) : AI X tg (.Call (.Name "range" p) [e, e2] [] pos) (iRng2 ta) (aIR2 a) := ⟨pi_range2 hg hm h.pa hs hs2, by
  intro σ s F C R H Q P hs hS h0 k
  refine h.sim σ s F C R H _ _ hs hS h0 fun ds vs F1 C1 H1 e1 S1 r1 hl h1 => ?_
  split at h1
  · cases r1 with | cons r1 r2 => cases r2 with | cons r2 r3 => cases r3; cases r1; cases r2; exact ⟨_, _, rfl, h1.1, k _ _ _ F1 C1 H1 e1 S1 (walk_r _ _) h1.2⟩
  · exact h1.elim⟩
/-- a text, sign by sign -/
def signs (z : Str) : List D := z.cps.toList.map fun c => D.str ⟨#[c]⟩
def aIS (a : AE') : AI' := fun s C P => a s C fun x C1 => match x with | .str z => P (signs z) (fun _ => True) C1 | _ => False
theorem ai_str {tg e : Expr} {te : TE} {a : AE'} (h : AE X e te a) : AI X tg e (iStr te) (aIS a) := ⟨pi_str h.pe, by
  intro σ s F C R H Q P hs hS h0 k
  refine h.sim σ s F C R H _ _ hs hS h0 fun x v F1 C1 H1 e1 S1 r1 h1 => ?_
  split at h1
  · rename_i z
    cases r1
    refine ⟨z, rfl, k _ _ _ F1 C1 H1 e1 S1 ⟨fun F' C' R' H' e S _ => ?_, fun F' C' R' H' i e S _ hi => ?_, fun F' C' R' H' i x H'' e S _ hi y => ?_⟩ h1⟩
    · unfold signs; rw [List.length_map, Array.length_toList]; exact Nat.le_refl _
    · unfold signs at hi; rw [List.length_map, Array.length_toList] at hi; exact hi
    · obtain ⟨e3, c, y1, y2⟩ := y
      subst e3; subst y2
      refine ⟨_, F', ?_, Ex.refl F', S, .str _⟩
      unfold signs
      rw [List.getElem?_map, Array.getElem?_toList, y1]
      rfl
  · exact h1.elim⟩
/-- enumerate of a list -/
def enumD (ds : List D) : List D := (List.range ds.length).map fun (i : Nat) => D.tup [.int i, ds.getD i .non]
theorem enumD_len (ds : List D) : (enumD ds).length = ds.length := by unfold enumD; rw [List.length_map, List.length_range]
theorem enumD_get {ds : List D} {i : Nat} {d : D} (h : ds[i]? = some d) : (enumD ds)[i]? = some (.tup [.int i, d]) := by
  unfold enumD
  have hi := (List.getElem?_eq_some_iff.mp h).1
  rw [List.getElem?_map, List.getElem?_range hi]
  simp [List.getD, h]
def aIE (a : AA') : AI' := fun s C P => a s C fun us C1 => match us with | [x] => (match asLr C1 x with | some ds => P (enumD ds) (fun C' => asLr C' x = some ds) C1 | none => False) | _ => False
theorem ai_enum {e : Expr} {elts : List Expr} {kk n : Nat} {tpos p : Pos} {ta : TA} {a : AA'} (hm : X.mg "enumerate" = none) (h : AA X [e] n ta a) (hg : Gl X "enumerate" := by rfl) (hs : starEach [e] X.env = [(false, eval e X.env)] := by rfl) (hK : X.K = K := by rfl) : AI X (.Tuple elts kk tpos) (.Call (.Name "enumerate" p) [e] [] pos) (iEnum K ta) (aIE a) := by
  subst hK
  exact ⟨pi_enum hg hm h.pa hs, by
  intro σ s F C R H Q P hs hS h0 k
  refine h.sim σ s F C R H _ _ hs hS h0 fun us vs F1 C1 H1 e1 S1 r0 hl h1 => ?_
  split at h1
  · rename_i x
    cases r0 with
    | cons r1 r2 =>
      cases r2
      split at h1
      · rename_i ds q
        obtain ⟨b, xs, e2, h2, h3⟩ := asLr_ok S1 r1 q
        refine ⟨b, xs, by rw [e2], h2, k _ _ _ F1 C1 H1 e1 S1 ⟨fun F' C' R' H' e S hc => ?_, fun F' C' R' H' i e S hc hi => ?_, fun F' C' R' H' i x H'' e S hc hi y => ?_⟩ h1⟩
        · obtain ⟨xs', h4, h5⟩ := asL_later S1 r1 q e S hc b e2
          exact ⟨xs', h4, by rw [h5.length, enumD_len]; exact Nat.le_refl _⟩
        · obtain ⟨xs', h4, h5⟩ := asL_later S1 r1 q e S hc b e2
          rw [enumD_len] at hi
          exact ⟨xs', xs'[i]'(by rw [h5.length]; exact hi), h4, by simp⟩
        · obtain ⟨xs', h4, h5⟩ := asL_later S1 r1 q e S hc b e2
          obtain ⟨T, v, y1, y2, y3, y4⟩ := y
          subst y1; subst y3
          obtain ⟨d, h6, h7⟩ := h5.get (y4 xs' h4)
          have eN := Ex.new (o := .tup [.int (i : Nat), v]) (S.freeF y2)
          exact ⟨_, _, enumD_get h6, eN, S.newF y2 _, .tup upd_same (.cons (.int _) (.cons (h7.mono eN) .nil))⟩
      · exact h1.elim
  · exact h1.elim⟩
/-- zip of two lists -/
def zipD (xs ys : List D) : List D := (xs.zip ys).map fun p => D.tup [p.1, p.2]
theorem zipD_len (xs ys : List D) : (zipD xs ys).length = min xs.length ys.length := by unfold zipD; rw [List.length_map, List.length_zip]
theorem zipD_get {xs ys : List D} {i : Nat} {x y : D} (h : xs[i]? = some x) (g : ys[i]? = some y) : (zipD xs ys)[i]? = some (.tup [x, y]) := by
  unfold zipD
  rw [List.getElem?_map, show (xs.zip ys)[i]? = some (x, y) from List.getElem?_zip_eq_some.mpr ⟨h, g⟩]
  rfl
def aIZ (a : AA') : AI' := fun s C P => a s C fun us C1 => match us with | [x, y] => (match asLr C1 x, asLr C1 y with | some ds, some es => P (zipD ds es) (fun C' => asLr C' x = some ds ∧ asLr C' y = some es) C1 | _, _ => False) | _ => False
theorem ai_zip {e e2 : Expr} {elts : List Expr} {kk n : Nat} {tpos p : Pos} {ta : TA} {a : AA'} (hm : X.mg "zip" = none) (h : AA X [e, e2] n ta a) (hg : Gl X "zip" := by rfl) (hs : starEach [e, e2] X.env = (false, eval e X.env) :: starEach [e2] X.env := by rfl) (hpl : (backTo pos (starEach [e2] X.env)).any (·.1) = false := by rfl) (hK : X.K = K := by rfl) :
    AI X (.Tuple elts kk tpos) (.Call (.Name "zip" p) [e, e2] [] pos) (iZip K ta) (aIZ a) := by
  subst hK
  exact ⟨pi_zip hg hm h.pa hs hpl, by
  intro σ s F C R H Q P hs hS h0 k
  refine h.sim σ s F C R H _ _ hs hS h0 fun us vs F1 C1 H1 e1 S1 r0 hl h1 => ?_
  split at h1
  · rename_i x y
    cases r0 with
    | cons r1 r2 =>
      cases r2 with
      | cons r2 r3 =>
      cases r3
      split at h1
      · rename_i ds es q q2
        obtain ⟨b, xs, e2, h2, h3⟩ := asLr_ok S1 r1 q
        obtain ⟨b2, xs2, e3, h22, h33⟩ := asLr_ok S1 r2 q2
        refine ⟨b, b2, xs, xs2, by rw [e2, e3], h2, h22, k _ _ _ F1 C1 H1 e1 S1 ⟨fun F' C' R' H' e S hc => ?_, fun F' C' R' H' i e S hc hi => ?_, fun F' C' R' H' i x H'' e S hc hi y => ?_⟩ h1⟩
        · obtain ⟨xs', h4, h5⟩ := asL_later S1 r1 q e S hc.1 b e2
          obtain ⟨ys', g4, g5⟩ := asL_later S1 r2 q2 e S hc.2 b2 e3
          refine ⟨xs', ys', h4, g4, ?_⟩
          rw [h5.length, g5.length, zipD_len]; omega
        · obtain ⟨xs', h4, h5⟩ := asL_later S1 r1 q e S hc.1 b e2
          obtain ⟨ys', g4, g5⟩ := asL_later S1 r2 q2 e S hc.2 b2 e3
          rw [zipD_len] at hi
          exact ⟨xs', ys', xs'[i]'(by rw [h5.length]; omega), ys'[i]'(by rw [g5.length]; omega), h4, g4, by simp, by simp⟩
        · obtain ⟨xs', h4, h5⟩ := asL_later S1 r1 q e S hc.1 b e2
          obtain ⟨ys', g4, g5⟩ := asL_later S1 r2 q2 e S hc.2 b2 e3
          obtain ⟨T, v, w', y1, y2, y3, y4, y5⟩ := y
          subst y1; subst y3
          obtain ⟨d, h6, h7⟩ := h5.get (y4 xs' h4)
          obtain ⟨d2, g6, g7⟩ := g5.get (y5 ys' g4)
          have eN := Ex.new (o := .tup [v, w']) (S.freeF y2)
          exact ⟨_, _, zipD_get h6 g6, eN, S.newF y2 _, .tup upd_same (.cons (h7.mono eN) (.cons (g7.mono eN) .nil))⟩
      · exact h1.elim
  · exact h1.elim⟩
end
end AL

namespace AL
open PySem PySem.Spec L2
section
variable {X : Cx} {pos : Pos} {K : PySem.W.Frag}
theorem EndsR.mono {F F' R : Hp} {E : AEnds} {D' : Ends} (h : EndsR K F R E D') (e : Ex F F') : EndsR K F' R E D' :=
  ⟨fun s σ G C H e1 hs S z => h.nx s σ G C H (e.trans e1) hs S z, fun d v G C H e1 r S z => h.rt d v G C H (e.trans e1) r S z, fun s σ G C H e1 hs S z => h.bk s σ G C H (e.trans e1) hs S z, fun s σ G C H e1 hs S z => h.ct s σ G C H (e.trans e1) hs S z⟩
/-! ### targets -/
def aGName (i : Nat) : AG' := fun d s C P => P (s.set i (some d)) C
theorem wipe_get (σ : L2.St) (i : Nat) : ∀ vs : List Nat, (L2.wipe σ vs)[i]? = if i ∈ vs then (if i < σ.length then some none else none) else σ[i]?
  | [] => by simp [L2.wipe]
  | v :: vs => by
    unfold L2.wipe
    by_cases h : i = v
    · subst h
      rw [if_pos List.mem_cons_self]
      by_cases hl : i < σ.length
      · rw [if_pos hl, List.getElem?_set_self (by rw [L2.wipe_length]; exact hl)]
      · rw [if_neg hl, List.getElem?_eq_none (by rw [List.length_set, L2.wipe_length]; omega)]
    · rw [List.getElem?_set_ne (Ne.symm h), wipe_get σ i vs]
      by_cases h2 : i ∈ vs
      · rw [if_pos h2, if_pos (List.mem_cons_of_mem _ h2)]
      · rw [if_neg h2, if_neg (by simp [h, h2])]
theorem wipe_set {σ : L2.St} {j : Nat} {x : Option V} {vs : List Nat} (h : j ∈ vs) : L2.wipe (σ.set j x) vs = L2.wipe σ vs := by
  apply List.ext_getElem?
  intro i
  rw [wipe_get, wipe_get, List.length_set]
  by_cases h2 : i ∈ vs
  · rw [if_pos h2, if_pos h2]
  · rw [if_neg h2, if_neg h2, List.getElem?_set_ne (fun z => h2 (by rw [← z]; exact h))]
theorem wipe_wipe (σ : L2.St) (vs : List Nat) : L2.wipe (L2.wipe σ vs) vs = L2.wipe σ vs := by
  apply List.ext_getElem?
  intro i
  rw [wipe_get, L2.wipe_length]
  by_cases h2 : i ∈ vs
  · rw [if_pos h2, wipe_get, if_pos h2]
  · rw [if_neg h2]
theorem ag_name (i : Nat) {vs : List Nat} {x : Str} (hN : X.N.Nodup) (hi : X.N[i]? = some x := by rfl) (hx : Loc X.env.scope x := by exact Or.inl rfl) (hv : i ∈ vs := by decide) (hf : X.fn x = true ∨ X.env.scope.names.lookup x = some .local := by first | exact .inl rfl | exact .inr rfl) : AG X (.Name x pos) vs (gName i) (aGName i) :=
  ⟨pg_name hN hi hx hf, fun v d σ s F C R H Q P hs hS r h k => k _ _ F C H (Ex.refl F) (hs.set r i) hS h, fun x σ H Q Q' h k => k _ _ (wipe_set hv) h⟩
abbrev AGs' := List D → ASt → AH → (ASt → AH → Prop) → Prop
def SimGs (K : PySem.W.Frag) (g : TGs) (a : AGs') : Prop := ∀ (vs : List V) (ds : List D) (σ : L2.St) (s : ASt) (F : Hp) (C : AH) (R H : Hp) (Q : L2.St → Hp → Prop) (P : ASt → AH → Prop), Slo K F s σ → Sat K F C R H → RepL K F vs ds → a ds s C P →
  (∀ s' σ' F' C' H', Ex F F' → Slo K F' s' σ' → Sat K F' C' R H' → P s' C' → Q σ' H') → g vs σ H Q
structure AGs (X : Cx) (es : List Expr) (vs : List Nat) (g : TGs) (a : AGs') : Prop where
  pg : PGs X es g
  sim : SimGs X.K g a
  inn : ∀ xs σ H (Q Q' : L2.St → Hp → Prop), g xs σ H Q → (∀ σ2 H2, L2.wipe σ2 vs = L2.wipe σ vs → Q σ2 H2 → Q' σ2 H2) → g xs σ H Q'
def aGNil : AGs' := fun ds s C P => match ds with | [] => P s C | _ => False
def aGCons (g : AG') (r : AGs') : AGs' := fun ds s C P => match ds with | d :: ds => g d s C fun s' C' => r ds s' C' P | [] => False
theorem ags_nil {vs : List Nat} : AGs X [] vs gNil aGNil := ⟨pgs_nil, fun vs ds σ s F C R H Q P hs hS r h k => by
  unfold aGNil at h
  split at h
  · cases r
    exact ⟨rfl, k s σ F C H (Ex.refl F) hs hS h⟩
  · exact h.elim, fun xs σ H Q Q' h k => ⟨h.1, k _ _ rfl h.2⟩⟩
theorem ags_cons {e : Expr} {es : List Expr} {vs : List Nat} {g : TG} {r : TGs} {a : AG'} {b : AGs'} (h1 : AG X e vs g a) (h2 : AGs X es vs r b) (hs : (assignEach (e :: es) X.env).map (·.2) = assign e X.env :: (assignEach es X.env).map (·.2) := by rfl) : AGs X (e :: es) vs (gCons g r) (aGCons a b) :=
  ⟨pgs_cons h1.pg h2.pg hs, fun vs ds σ s F C R H Q P hs hS rr h k => by
    unfold aGCons at h
    split at h
    · cases rr with
      | cons r1 r2 =>
        refine ⟨_, _, rfl, ?_⟩
        refine h1.sim _ _ σ s F C R H _ _ hs hS r1 h fun s1 σ1 F1 C1 H1 e1 hs1 S1 q1 => ?_
        exact h2.sim _ _ σ1 s1 F1 C1 R H1 Q P hs1 S1 (r2.mono e1) q1 fun s2 σ2 F2 C2 H2 e2 => k s2 σ2 F2 C2 H2 (e1.trans e2)
    · exact h.elim, fun xs σ H Q Q' h k => by
    obtain ⟨v, r, e, h⟩ := h
    refine ⟨v, r, e, ?_⟩
    exact h1.inn v σ H _ _ h fun σ1 H1 w1 q => h2.inn r σ1 H1 _ _ q fun σ2 H2 w2 q2 => k σ2 H2 (w2.trans w1) q2⟩
def aGTup (n : Nat) (g : AGs') : AG' := fun d s C P => match d with | .tup ds => ds.length = n ∧ g ds s C P | _ => False
theorem ag_tup {es : List Expr} {k n : Nat} {vs : List Nat} {t : TGs} {a : AGs'} (h : AGs X es vs t a) (hc : X.calm = true := by rfl) (hn : (assignEach es X.env).length = n := by rfl) (hst : (assignEach es X.env).findIdx? (·.1) = none := by rfl) (hK : X.K = K := by rfl) : AG X (.Tuple es k pos) vs (gTup K n t) (aGTup n a) := by
  subst hK
  exact ⟨pg_tup hc h.pg hn hst, fun v d σ s F C R H Q P hs hS r h0 kk => by
    unfold aGTup at h0
    split at h0
    · cases r with
      | tup e q =>
        exact ⟨_, _, rfl, SqT.of (hS.ex _ _ e), by rw [q.length]; exact h0.1, h.sim _ _ σ s F C R H Q P hs hS q h0.2 kk⟩
    · exact h0.elim, fun x σ H Q Q' h0 kk => by
    obtain ⟨a, xs, e, hq, hl, h0⟩ := h0
    exact ⟨a, xs, e, hq, hl, h.inn xs σ H _ _ h0 kk⟩⟩
/-- xs[i] = .., a list -/
def aGSet (o i : AE') : AG' := fun d s C P => o s C fun x C1 => i s C1 fun y C2 => match x, y with
  | .ce p, .int j => (match C2 p with | some (.lst us) => (match ixN us.length j with | some k => P s (put C2 p (.lst (us.set k d))) | none => False) | _ => False)
  | _, _ => False
theorem sim_set {to ti : TE} {ao ai : AE'} (ho : SimE K to ao) (hi : SimE K ti ai) : SimG K (gSub to ti rSetL) (aGSet ao ai) := by
  intro v d σ s F C R H Q P hs hS r h k
  refine ho σ s F C R H _ _ hs hS h fun x w F1 C1 H1 e1 S1 r1 h1 => ?_
  refine hi σ s F1 C1 R H1 _ _ (hs.mono e1) S1 h1 fun y w2 F2 C2 H2 e2 S2 r2 h2 => ?_
  split at h2
  · cases r1
    cases r2
    split at h2
    · rename_i us e
      split at h2
      · rename_i j q
        obtain ⟨xs, h3, h4⟩ := cellL S2 e
        exact ⟨_, xs, _, j, rfl, rfl, h3, by rw [h4.length]; exact q, k s σ F2 _ _ (e1.trans e2) (hs.mono (e1.trans e2)) (S2.mutC e (.lst (h4.set (r.mono (e1.trans e2)) j))) h2⟩
      · exact h2.elim
    · exact h2.elim
  · exact h2.elim

/-! ### statements -/
def aNext : AS' := fun E s C => E.nx s C
def aSeq (a b : AS') : AS' := fun E s C => a { E with nx := b E } s C
theorem sim_next : SimS K tNext aNext := fun D' E σ s F C R H hE hs hS h => hE.nx s σ F C H (Ex.refl F) hs hS h
theorem sim_seq {t u : TS} {a b : AS'} (ha : SimS K t a) (hb : SimS K u b) : SimS K (tSeq t u) (aSeq a b) := fun D' E σ s F C R H hE hs hS h =>
  ha { D' with nx := u D' } { E with nx := b E } σ s F C R H ⟨fun s σ F' C' H' e hs S z => hb D' E σ s F' C' R H' (hE.mono e) hs S z, hE.rt, hE.bk, hE.ct⟩ hs hS h
theorem ass_nil : ASs X [] tNext aNext := ⟨pss_nil, sim_next⟩
theorem ass_one {st : Stmt} {t : TS} {a : AS'} (h : AS X st t a) : ASs X [st] t a := ⟨pss_one h.ps, h.sim⟩
theorem ass_cons {st : Stmt} {rest : List Stmt} {t u : TS} {a b : AS'} (h : AS X st t a) (g : ASs X rest u b) : ASs X (st :: rest) (tSeq t u) (aSeq a b) := ⟨pss_cons h.ps g.ps, sim_seq h.sim g.sim⟩
/-- a cell that is changed no more, in a slot -/
def aFrz (i : Nat) (a : AS') : AS' := fun E s C => match s[i]? with
  | some (some (.ce p)) => (match C p with | some (.lst ds) => a E (s.set i (some (.lst ds))) (del C p) | some (.dk es) => a E (s.set i (some (.dk es))) (del C p) | _ => False)
  | _ => False
theorem sim_frz {t : TS} {a : AS'} (i : Nat) (h : SimS K t a) : SimS K t (aFrz i a) := fun D' E σ s F C R H hE hs hS h0 => by
  unfold aFrz at h0
  split at h0
  · rename_i p e
    split at h0
    · rename_i ds e2
      obtain ⟨hF, o, h1, h2⟩ := hS.cell p _ e2
      have eN := Ex.new (o := o) hF
      refine h D' E σ _ (upd F p o) _ R H (hE.mono eN) ((hs.mono eN).reset e fun v r => ?_) (hS.freeze e2 h1) h0
      cases r
      cases h2 with
      | lst q => exact .lst upd_same (q.mono eN)
    · rename_i ds e2
      obtain ⟨hF, o, h1, h2⟩ := hS.cell p _ e2
      have eN := Ex.new (o := o) hF
      refine h D' E σ _ (upd F p o) _ R H (hE.mono eN) ((hs.mono eN).reset e fun v r => ?_) (hS.freeze e2 h1) h0
      cases r
      cases h2 with
      | dk q => exact .dk upd_same (q.mono eN)
    · exact h0.elim
  · exact h0.elim
theorem ass_frz {sts : List Stmt} {t : TS} {a : AS'} (i : Nat) (h : ASs X sts t a) : ASs X sts t (aFrz i a) := ⟨h.ps, sim_frz i h.sim⟩
def aAsg (e : AE') (g : AG') : AS' := fun E s C => e s C fun x C1 => g x s C1 E.nx
theorem sim_asg {te : TE} {g : TG} {a : AE'} {b : AG'} (ha : SimE K te a) (hb : SimG K g b) : SimS K (tAsg te g) (aAsg a b) := fun D' E σ s F C R H hE hs hS h => by
  refine ha σ s F C R H _ _ hs hS h fun x v F1 C1 H1 e1 S1 r1 h1 => ?_
  exact hb v x σ s F1 C1 R H1 _ _ (hs.mono e1) S1 r1 h1 fun s2 σ2 F2 C2 H2 e2 hs2 S2 h2 => hE.nx s2 σ2 F2 C2 H2 (e1.trans e2) hs2 S2 h2
section
variable {e : Expr} {te : TE} {a : AE'}
theorem sim_name (i : Nat) : SimG K (gName i) (aGName i) := fun v d σ s F C R H Q P hs hS r h k => k _ _ F C H (Ex.refl F) (hs.set r i) hS h
theorem as_set (i : Nat) {x : Str} {pos' : Pos} (hN : X.N.Nodup) (h : AE X e te a) (hi : X.N[i]? = some x := by rfl) (hx : Loc X.env.scope x := by exact Or.inl rfl) (hs : swapsWith e (some (.Name x pos')) pos.line X.env = pure false := by rfl) (hf : X.fn x = true ∨ X.env.scope.names.lookup x = some .local := by first | exact .inl rfl | exact .inr rfl) :
    AS X (.Assign [.Name x pos'] e pos) (tAsg te (gName i)) (aAsg a (aGName i)) := ⟨ps_set hN hi hx h.pe hs hf, sim_asg h.sim (sim_name i)⟩
theorem as_asg {tg : Expr} {vs : List Nat} {g : TG} {b : AG'} (h : AE X e te a) (hg : AG X tg vs g b) (hs : swapsWithSole [tg] e pos.line X.env = pure false := by rfl) (hw : swappedStores [tg] e X.env = pure none := by rfl)
    (h1 : (assignEach [tg] X.env).map (·.2) = [assign tg X.env] := by rfl) : AS X (.Assign [tg] e pos) (tAsg te g) (aAsg a b) := ⟨ps_asg h.pe hg.pg hs hw h1, sim_asg h.sim hg.sim⟩
/-- xs[i] = e -/
theorem as_setL {o i : Expr} {to ti : TE} {ao ai : AE'} {p2 : Pos} (h : AE X e te a) (ho : AE X o to ao) (hi : AE X i ti ai) (hs : swapsWithSole [.Subscript o i p2] e pos.line X.env = pure false := by rfl) (hw : swappedStores [.Subscript o i p2] e X.env = pure none := by rfl)
    (h1 : (assignEach [.Subscript o i p2] X.env).map (·.2) = [assign (.Subscript o i p2) X.env] := by rfl)
    (ha : ∀ v, assign (.Subscript o i p2) X.env v = (do
      let ov ← holding [v] (eval o X.env)
      let iv ← holding [v, ov] (eval i X.env)
      standAt p2
      holding [v, ov, iv] (setItem ov iv v)
      release [v, ov, iv] []) := by intro _; rfl) : AS X (.Assign [.Subscript o i p2] e pos) (tAsg te (gSub to ti rSetL)) (aAsg a (aGSet ao ai)) :=
  ⟨ps_asg h.pe (pg_sub ho.pe hi.pe set_list ha) hs hw h1, sim_asg h.sim (sim_set ho.sim hi.sim)⟩
def aDrop (a : AE') : AS' := fun E s C => a s C fun _ C1 => E.nx s C1
theorem as_expr (h : AE X e te a) (hs : swapsWith e none pos.line X.env = pure false := by rfl) : AS X (.Expr e pos) (tDrop te) (aDrop a) := ⟨ps_expr h.pe hs, fun D' E σ s F C R H hE hs hS h0 => by
  exact h.sim σ s F C R H _ _ hs hS h0 fun x v F1 C1 H1 e1 S1 r1 h1 => hE.nx s σ F1 C1 H1 e1 (hs.mono e1) S1 h1⟩
def aRet (a : AE') : AS' := fun E s C => a s C E.rt
theorem as_ret (h : AE X e te a) : AS X (.Return (some e) pos) (tRet te) (aRet a) := ⟨ps_ret h.pe, fun D' E σ s F C R H hE hs hS h0 => by
  exact h.sim σ s F C R H _ _ hs hS h0 fun x v F1 C1 H1 e1 S1 r1 h1 => hE.rt x v F1 C1 H1 e1 r1 S1 h1⟩
end
def aRetN : AS' := fun E _ C => E.rt .non C
theorem as_retN : AS X (.Return none pos) tRetN aRetN := ⟨ps_retN, fun D' E σ s F C R H hE hs hS h0 => hE.rt .non .non F C H (Ex.refl F) .non hS h0⟩
def aBrk : AS' := fun E s C => E.bk s C
def aCon : AS' := fun E s C => E.ct s C
theorem as_brk : AS X (.Break pos) tBreak aBrk := ⟨ps_break, fun D' E σ s F C R H hE hs hS h => hE.bk s σ F C H (Ex.refl F) hs hS h⟩
theorem as_con : AS X (.Continue pos) tCont aCon := ⟨ps_continue, fun D' E σ s F C R H hE hs hS h => hE.ct s σ F C H (Ex.refl F) hs hS h⟩
theorem as_pass : AS X (.Pass pos) tNext aNext := ⟨ps_pass, sim_next⟩
def aIfS (c : AT') (a b : AS') : AS' := fun E s C => c s C fun t C1 => if t = true then a E s C1 else b E s C1
theorem as_if {c : Expr} {p q : List Stmt} {tc : TT} {t u : TS} {ac : AT'} {a b : AS'} (hc : AT X c tc ac) (ha : ASs X p t a) (hb : ASs X q u b) : AS X (.If c p q pos) (tIfS tc t u) (aIfS ac a b) := ⟨ps_if hc.pt ha.ps hb.ps, fun D' E σ s F C R H hE hs hS h0 => by
  refine hc.sim σ s F C R H _ _ hs hS h0 fun t F1 C1 H1 e1 S1 h1 => ?_
  cases t with
  | true => exact ha.sim D' E σ s F1 C1 R H1 (hE.mono e1) (hs.mono e1) S1 h1
  | false => exact hb.sim D' E σ s F1 C1 R H1 (hE.mono e1) (hs.mono e1) S1 h1⟩
/-- name op= e, ints -/
def aAug (i : Nat) (f : Int → Int → Int) (a : AE') : AS' := fun E s C => match s[i]? with
  | some (some (.int x)) => a s C fun y C1 => (match y with | .int j => E.nx (s.set i (some (.int (f x j)))) C1 | _ => False)
  | _ => False
theorem sim_aug {f : Int → Int → Int} {te : TE} {a : AE'} (i : Nat) (h : SimE K te a) : SimS K (tAug i te (ipI f)) (aAug i f a) := fun D' E σ s F C R H hE hs hS h0 => by
  unfold aAug at h0
  split at h0
  · rename_i x e
    obtain ⟨v, h1, h2⟩ := hs.at' i _ e
    cases h2
    refine ⟨_, h1, h σ s F C R H _ _ hs hS h0 fun y w F1 C1 H1 e1 S1 r1 h3 => ?_⟩
    split at h3
    · cases r1
      exact ⟨_, _, rfl, rfl, hE.nx _ _ F1 C1 H1 e1 ((hs.mono e1).set (.int _) i) S1 h3⟩
    · exact h3.elim
  · exact h0.elim

/-! ### loops -/
def aFor (w : AI') (g : AG') (b : AS') : AS' := fun E s C => w s C fun items hold C1 => ∃ W : Nat → ASt → AH → Prop, W 0 s C1 ∧ (∀ i s' C', i ≤ items.length → W i s' C' → hold C') ∧
  (∀ i d s' C', items[i]? = some d → W i s' C' → g d s' C' fun s2 C2 => b { E with nx := W (i + 1), ct := W (i + 1), bk := E.nx } s2 C2) ∧ ∀ s' C', W items.length s' C' → E.nx s' C'
theorem sim_for {wi : TI} {g : TG} {tb : TS} {aw : AI'} {ag : AG'} {ab : AS'} (hi : SimI K wi aw) (hg : SimG K g ag) (hb : SimS K tb ab) : SimS K (tFor wi g tb) (aFor aw ag ab) := fun D' E σ s F C R H hE hs hS h => by
  refine hi σ s F C R H _ _ hs hS h fun items hold J F1 C1 H1 e1 S1 Wk h1 => ?_
  obtain ⟨W, h0, hh, hstep, hend⟩ := h1
  refine ⟨fun i m σ' H' => m = items.length - i ∧ i ≤ items.length ∧ ∃ s' F' C', Ex F1 F' ∧ Slo K F' s' σ' ∧ Sat K F' C' R H' ∧ W i s' C', ⟨items.length, by simp, Nat.zero_le _, s, F1, C1, Ex.refl F1, hs.mono e1, S1, h0⟩, ?_⟩
  rintro i m σ' H' ⟨rfl, hi, s', F', C', e', hs', S', w⟩
  by_cases hlt : i < items.length
  · refine .inr ⟨Wk.go F' C' R H' i e' S' (hh i s' C' hi w) hlt, fun σ2 H2 => ∃ s2 F2 C2, Ex F1 F2 ∧ Slo K F2 s2 σ2 ∧ Sat K F2 C2 R H2 ∧ W (i + 1) s2 C2, fun σ2 H2 z => ⟨items.length - (i + 1), by omega, rfl, hlt, z⟩, fun x H'' y => ?_⟩
    obtain ⟨d, F'', hd, e'', S'', r⟩ := Wk.yld F' C' R H' i x H'' e' S' (hh i s' C' hi w) hlt y
    refine hg x d σ' s' F'' C' R H'' _ _ (hs'.mono e'') S'' r (hstep i d s' C' hd w) fun s2 σ2 F2 C2 H2 e2 hs2 S2 h2 => ?_
    have eA : Ex F1 F2 := (e'.trans e'').trans e2
    refine hb _ { E with nx := W (i + 1), ct := W (i + 1), bk := E.nx } σ2 s2 F2 C2 R H2 ⟨fun s3 σ3 F3 C3 H3 e3 hs3 S3 z => ⟨s3, F3, C3, eA.trans e3, hs3, S3, z⟩, fun d v F3 C3 H3 e3 r3 S3 z => hE.rt d v F3 C3 H3 ((e1.trans eA).trans e3) r3 S3 z,
      fun s3 σ3 F3 C3 H3 e3 hs3 S3 z => hE.nx s3 σ3 F3 C3 H3 ((e1.trans eA).trans e3) hs3 S3 z, fun s3 σ3 F3 C3 H3 e3 hs3 S3 z => ⟨s3, F3, C3, eA.trans e3, hs3, S3, z⟩⟩ hs2 S2 h2
  · have e : i = items.length := by omega
    subst e
    exact .inl ⟨Wk.stop F' C' R H' e' S' (hh _ s' C' (Nat.le_refl _) w), hE.nx s' σ' F' C' H' (e1.trans e') hs' S' (hend s' C' w)⟩
theorem as_for {tg iter : Expr} {body : List Stmt} {wi : TI} {vs : List Nat} {g : TG} {tb : TS} {aw : AI'} {ag : AG'} {ab : AS'} (hi : AI X tg iter wi aw) (hg : AG X tg vs g ag) (hb : ASs X body tb ab) (hp : PassesOwn (model X.prog X.w) X.A X.env X.xe := by exact PassesOwn.never) (hc : X.calm = true := by rfl)
    (hs : ∀ x, foldedSetIterable iter X.env x = pure x := by intro _; rfl) : AS X (.For tg iter body [] pos) (tFor wi g tb) (aFor aw ag ab) := ⟨ps_for hp hc hi.pi hg.pg hb.ps hs, sim_for hi.sim hg.sim hb.sim⟩
def aWhile (c : AT') (b : AS') : AS' := fun E s C => ∃ W : Nat → ASt → AH → Prop, (∃ m, W m s C) ∧ ∀ m s' C', W m s' C' → c s' C' fun t C1 => if t = true then b { E with nx := fun s2 C2 => ∃ m', m' < m ∧ W m' s2 C2, ct := fun s2 C2 => ∃ m', m' < m ∧ W m' s2 C2, bk := E.nx } s' C1 else E.nx s' C1
theorem sim_while {tc : TT} {tb : TS} {ac : AT'} {ab : AS'} (hc : SimT K tc ac) (hb : SimS K tb ab) : SimS K (tWhile tc tb) (aWhile ac ab) := fun D' E σ s F C R H hE hs hS h => by
  obtain ⟨W, ⟨m0, h0⟩, hstep⟩ := h
  refine ⟨fun m σ' H' => ∃ s' F' C', Ex F F' ∧ Slo K F' s' σ' ∧ Sat K F' C' R H' ∧ W m s' C', ⟨m0, s, F, C, Ex.refl F, hs, hS, h0⟩, ?_⟩
  rintro m σ' H' ⟨s', F', C', e', hs', S', w⟩
  refine hc σ' s' F' C' R H' _ _ hs' S' (hstep m s' C' w) fun t F1 C1 H1 e1 S1 h1 => ?_
  have eA : Ex F F1 := e'.trans e1
  cases t with
  | true =>
    refine ⟨fun σ2 H2 => ∃ m', m' < m ∧ ∃ s2 F2 C2, Ex F F2 ∧ Slo K F2 s2 σ2 ∧ Sat K F2 C2 R H2 ∧ W m' s2 C2, fun σ2 H2 z => z, ?_⟩
    refine hb _ { E with nx := fun s2 C2 => ∃ m', m' < m ∧ W m' s2 C2, ct := fun s2 C2 => ∃ m', m' < m ∧ W m' s2 C2, bk := E.nx } σ' s' F1 C1 R H1 ⟨fun s3 σ3 F3 C3 H3 e3 hs3 S3 z => ?_, fun d v F3 C3 H3 e3 r3 S3 z => hE.rt d v F3 C3 H3 (eA.trans e3) r3 S3 z,
      fun s3 σ3 F3 C3 H3 e3 hs3 S3 z => hE.nx s3 σ3 F3 C3 H3 (eA.trans e3) hs3 S3 z, fun s3 σ3 F3 C3 H3 e3 hs3 S3 z => ?_⟩ (hs'.mono e1) S1 h1
    · obtain ⟨m', hm, z⟩ := z
      exact ⟨m', hm, s3, F3, C3, eA.trans e3, hs3, S3, z⟩
    · obtain ⟨m', hm, z⟩ := z
      exact ⟨m', hm, s3, F3, C3, eA.trans e3, hs3, S3, z⟩
  | false => exact hE.nx s' σ' F1 C1 H1 eA (hs'.mono e1) S1 h1
theorem as_while {c : Expr} {body : List Stmt} {tc : TT} {tb : TS} {ac : AT'} {ab : AS'} (hc : AT X c tc ac) (hb : ASs X body tb ab) (hp : PassesOwn (model X.prog X.w) X.A X.env X.xe := by exact PassesOwn.never) : AS X (.While c body [] pos) (tWhile tc tb) (aWhile ac ab) := ⟨ps_while hp hc.pt hb.ps, sim_while hc.sim hb.sim⟩

/-! ### comprehensions -/
def aYes : AT' := fun _ C P => P true C
theorem ats_nil : ATs X [] tYes aYes := ⟨pts_nil, fun σ s F C R H Q P hs hS h k => k true F C H (Ex.refl F) hS h⟩
theorem ats_one {c : Expr} {t : TT} {a : AT'} (h : AT X c t a) : ATs X [c] t a := ⟨pts_one h.pt, h.sim⟩
/-- the list as it is made; fin: what becomes of it -/
def aLcW (w : AI') (g : AG') (t : AT') (e : AE') (vs : List Nat) (fin : List D → AH → Prop) : ASt → AH → Prop := fun s C => w s C fun items hold C1 => items.length ≤ sizeLine ∧ ∃ W : Nat → List D → AH → Prop, W 0 [] C1 ∧ (∀ i acc C', i ≤ items.length → W i acc C' → hold C') ∧
  (∀ i d acc C', items[i]? = some d → W i acc C' → g d (wipeA s vs) C' fun s2 C2 => t s2 C2 fun b C3 => if b = true then e s2 C3 fun y C4 => W (i + 1) (acc ++ [y]) C4 else W (i + 1) acc C3) ∧ ∀ acc C', W items.length acc C' → fin acc C'
def aLc (w : AI') (g : AG') (t : AT') (e : AE') (vs : List Nat) : AE' := fun s C P => aLcW w g t e vs (fun acc C' => P (.lst acc) C') s C
def aLcM (w : AI') (g : AG') (t : AT') (e : AE') (vs : List Nat) : AE' := fun s C P => aLcW w g t e vs (fun acc C' => ∀ p, C' p = none → P (.ce p) (put C' p (.lst acc))) s C
theorem lc_sim {wi : TI} {g : TG} {tt : TT} {te : TE} {vs : List Nat} {aw : AI'} {ag : AG'} {at' : AT'} {ae : AE'} {fin : List D → AH → Prop} (hi : SimI K wi aw) (hg : SimG K g ag) (hin : GIn vs g) (ht : SimT K tt at') (he : SimE K te ae)
    {σ : L2.St} {s : ASt} {F : Hp} {C : AH} {R H : Hp} {Q : VK} (hs : Slo K F s σ) (hS : Sat K F C R H) (h : aLcW aw ag at' ae vs fin s C)
    (k : ∀ Dl acc accD F' C' H', Ex F F' → R Dl = none → Sat K F' C' (upd R Dl (.lst acc)) H' → RepL K F' acc accD → fin accD C' → Q (.ref Dl) H') : tLc wi g tt te vs σ H Q := by
  refine hi σ s F C R H _ _ hs hS h fun items hold J F1 C1 H1 e1 S1 Wk h1 => ?_
  obtain ⟨hz, W, h0, hh, hstep, hend⟩ := h1
  intro Dl hD
  have hR := S1.freeR hD
  refine ⟨fun i m H' => m = items.length - i ∧ i ≤ items.length ∧ ∃ F' C' acc accD, Ex F1 F' ∧ Sat K F' C' (upd R Dl (.lst acc)) H' ∧ RepL K F' acc accD ∧ accD.length ≤ i ∧ W i accD C',
    ⟨items.length, by simp, Nat.zero_le _, F1, C1, [], [], Ex.refl F1, S1.setR (S1.freeF hD) (S1.freeC hD) _, .nil, Nat.le_refl _, h0⟩, ?_⟩
  rintro i m H' ⟨rfl, hi, F', C', acc, accD, e', S', ra, hl, w⟩
  by_cases hlt : i < items.length
  · refine .inr ⟨Wk.go F' C' _ H' i e' S' (hh i accD C' hi w) hlt, fun H2 => ∃ F2 C2 acc accD, Ex F1 F2 ∧ Sat K F2 C2 (upd R Dl (.lst acc)) H2 ∧ RepL K F2 acc accD ∧ accD.length ≤ i + 1 ∧ W (i + 1) accD C2, fun H2 z => ⟨items.length - (i + 1), by omega, rfl, hlt, z⟩, fun x H'' y => ?_⟩
    obtain ⟨d, F'', hd, e'', S'', r⟩ := Wk.yld F' C' _ H' i x H'' e' S' (hh i accD C' hi w) hlt y
    refine hin x _ H'' (fun σ2 H2 => tt σ2 H2 fun b H3 => if b = true then te σ2 H3 fun y H4 => ∃ acc, H4 Dl = some (.lst acc) ∧ acc.length < sizeLine ∧ ∃ F2 C2 acc2 accD, Ex F1 F2 ∧ Sat K F2 C2 (upd R Dl (.lst acc2)) (upd H4 Dl (.lst (acc ++ [y]))) ∧ RepL K F2 acc2 accD ∧ accD.length ≤ i + 1 ∧ W (i + 1) accD C2
      else ∃ F2 C2 acc accD, Ex F1 F2 ∧ Sat K F2 C2 (upd R Dl (.lst acc)) H3 ∧ RepL K F2 acc accD ∧ accD.length ≤ i + 1 ∧ W (i + 1) accD C2) _ ?_ fun σ2 H2 w2 q => ⟨w2.trans (wipe_wipe σ vs), q⟩
    refine hg x d _ (wipeA s vs) F'' C' _ H'' _ _ ((hs.mono ((e1.trans e').trans e'')).wipe vs) S'' r (hstep i d accD C' hd w) fun s2 σ2 F2 C2 H2 e2 hs2 S2 h2 => ?_
    refine ht σ2 s2 F2 C2 _ H2 _ _ hs2 S2 h2 fun b F3 C3 H3 e3 S3 h3 => ?_
    have eA : Ex F' F3 := (e''.trans e2).trans e3
    cases b with
    | true =>
      refine he σ2 s2 F3 C3 _ H3 _ _ (hs2.mono e3) S3 h3 fun y v F4 C4 H4 e4 S4 r4 h4 => ?_
      obtain ⟨f4, c4, d4⟩ := S4.priv Dl _ upd_same
      refine ⟨acc, d4, ?_, F4, C4, acc ++ [v], accD ++ [y], (e'.trans eA).trans e4, ?_, (ra.mono (eA.trans e4)).append (.cons r4 .nil), by rw [List.length_append]; exact Nat.succ_le_succ hl, h4⟩
      · rw [ra.length]; omega
      · have := S4.setR f4 c4 (.lst (acc ++ [v]))
        rw [upd_upd] at this
        exact this
    | false => exact ⟨F3, C3, acc, accD, e'.trans eA, S3, ra.mono eA, Nat.le_succ_of_le hl, h3⟩
  · have e : i = items.length := by omega
    subst e
    exact .inl ⟨Wk.stop F' C' _ H' e' S' (hh _ accD C' (Nat.le_refl _) w), k Dl acc accD F' C' H' (e1.trans e') hR S' ra (hend accD C' w)⟩
theorem sim_lc {wi : TI} {g : TG} {tt : TT} {te : TE} {vs : List Nat} {aw : AI'} {ag : AG'} {at' : AT'} {ae : AE'} (hi : SimI K wi aw) (hg : SimG K g ag) (hin : GIn vs g) (ht : SimT K tt at') (he : SimE K te ae) : SimE K (tLc wi g tt te vs) (aLc aw ag at' ae vs) := fun σ s F C R H Q P hs hS h k => by
  refine lc_sim hi hg hin ht he hs hS h fun Dl acc accD F' C' H' e1 hR S r h1 => ?_
  have eN := Ex.new (o := .lst acc) (S.priv Dl _ upd_same).1
  exact k _ _ _ C' H' (e1.trans eN) (S.outF hR) (.lst upd_same (r.mono eN)) h1
theorem sim_lcM {wi : TI} {g : TG} {tt : TT} {te : TE} {vs : List Nat} {aw : AI'} {ag : AG'} {at' : AT'} {ae : AE'} (hi : SimI K wi aw) (hg : SimG K g ag) (hin : GIn vs g) (ht : SimT K tt at') (he : SimE K te ae) : SimE K (tLc wi g tt te vs) (aLcM aw ag at' ae vs) := fun σ s F C R H Q P hs hS h k => by
  refine lc_sim hi hg hin ht he hs hS h fun Dl acc accD F' C' H' e1 hR S r h1 => ?_
  exact k _ _ F' _ H' e1 (S.outC hR (.lst r)) (.ce Dl) (h1 Dl (S.priv Dl _ upd_same).2.1)
section
variable {elt tg iter : Expr} {ifs : List Expr} {scope : Scope} {own : List (Str × Nat)} {wi : TI} {g : TG} {tt : TT} {te : TE} {aw : AI'} {ag : AG'} {at' : AT'} {ae : AE'}
theorem ae_lc (own : List (Str × Nat)) (hN : X.N.Nodup) (hi : AI X tg iter wi aw) (ok : BlkOk X.N X.env.scope scope own)
    (hg : ∀ (s : Shared) (H : Hp) (C : Addr) (cl : List (Str × Addr)) (fp : List Addr), AG (X.blk s H scope (compEnvC scope cl C X.env) fp) tg (own.map (·.2)) g ag) (ht : ∀ (s : Shared) (H : Hp) (C : Addr) (cl : List (Str × Addr)) (fp : List Addr), ATs (X.blk s H scope (compEnvC scope cl C X.env) fp) ifs tt at')
    (he : ∀ (s : Shared) (H : Hp) (C : Addr) (cl : List (Str × Addr)) (fp : List Addr), AE (X.blk s H scope (compEnvC scope cl C X.env) fp) elt te ae) (hc : X.calm = true := by rfl) (hs : ∀ x, foldedSetIterable iter X.env x = pure x := by intro _; rfl) :
    AE X (.ListComp elt [⟨tg, iter, ifs, 0⟩] scope pos) (tLc wi g tt te (own.map (·.2))) (aLc aw ag at' ae (own.map (·.2))) :=
  ⟨pe_lc hc hN hi.pi ok (fun s H C cl fp => (hg s H C cl fp).pg) (fun s H C cl fp => (ht s H C cl fp).pts) (fun s H C cl fp => (he s H C cl fp).pe) hs,
    let G := hg X.s_0 (fun _ => none) 0 [] []
    sim_lc hi.sim G.sim G.inn (ht X.s_0 (fun _ => none) 0 [] []).sim (he X.s_0 (fun _ => none) 0 [] []).sim⟩
theorem ae_lcM (own : List (Str × Nat)) (hN : X.N.Nodup) (hi : AI X tg iter wi aw) (ok : BlkOk X.N X.env.scope scope own)
    (hg : ∀ (s : Shared) (H : Hp) (C : Addr) (cl : List (Str × Addr)) (fp : List Addr), AG (X.blk s H scope (compEnvC scope cl C X.env) fp) tg (own.map (·.2)) g ag) (ht : ∀ (s : Shared) (H : Hp) (C : Addr) (cl : List (Str × Addr)) (fp : List Addr), ATs (X.blk s H scope (compEnvC scope cl C X.env) fp) ifs tt at')
    (he : ∀ (s : Shared) (H : Hp) (C : Addr) (cl : List (Str × Addr)) (fp : List Addr), AE (X.blk s H scope (compEnvC scope cl C X.env) fp) elt te ae) (hc : X.calm = true := by rfl) (hs : ∀ x, foldedSetIterable iter X.env x = pure x := by intro _; rfl) :
    AE X (.ListComp elt [⟨tg, iter, ifs, 0⟩] scope pos) (tLc wi g tt te (own.map (·.2))) (aLcM aw ag at' ae (own.map (·.2))) :=
  ⟨pe_lc hc hN hi.pi ok (fun s H C cl fp => (hg s H C cl fp).pg) (fun s H C cl fp => (ht s H C cl fp).pts) (fun s H C cl fp => (he s H C cl fp).pe) hs,
    let G := hg X.s_0 (fun _ => none) 0 [] []
    sim_lcM hi.sim G.sim G.inn (ht X.s_0 (fun _ => none) 0 [] []).sim (he X.s_0 (fun _ => none) 0 [] []).sim⟩
/-- name = [..] -/
theorem as_setLc (i : Nat) (own : List (Str × Nat)) {y : Str} {py spos : Pos} (hN : X.N.Nodup) (hi : AI X tg iter wi aw) (hsw : swapsWith (.ListComp elt [⟨tg, iter, ifs, 0⟩] scope pos) (some (.Name y py)) spos.line X.env = pure true) (ok : BlkOk X.N X.env.scope scope own)
    (hg : ∀ (s : Shared) (H : Hp) (C : Addr) (cl : List (Str × Addr)) (fp : List Addr), AG (X.blk s H scope (compEnvC scope cl C X.env) fp) tg (own.map (·.2)) g ag) (ht : ∀ (s : Shared) (H : Hp) (C : Addr) (cl : List (Str × Addr)) (fp : List Addr), ATs (X.blk s H scope (compEnvC scope cl C X.env) fp) ifs tt at')
    (he : ∀ (s : Shared) (H : Hp) (C : Addr) (cl : List (Str × Addr)) (fp : List Addr), AE (X.blk s H scope (compEnvC scope cl C X.env) fp) elt te ae) (hy : X.N[i]? = some y := by rfl) (hyl : X.env.scope.names.lookup y = some .local := by rfl) (hc : X.calm = true := by rfl) (hs : ∀ x, foldedSetIterable iter X.env x = pure x := by intro _; rfl) :
    AS X (.Assign [.Name y py] (.ListComp elt [⟨tg, iter, ifs, 0⟩] scope pos) spos) (tAsg (tLc wi g tt te (own.map (·.2))) (gName i)) (aAsg (aLc aw ag at' ae (own.map (·.2))) (aGName i)) :=
  ⟨ps_setLc hc hN hy hyl hsw hi.pi ok (fun s H C cl fp => (hg s H C cl fp).pg) (fun s H C cl fp => (ht s H C cl fp).pts) (fun s H C cl fp => (he s H C cl fp).pe) hs,
    let G := hg X.s_0 (fun _ => none) 0 [] []
    sim_asg (sim_lc hi.sim G.sim G.inn (ht X.s_0 (fun _ => none) 0 [] []).sim (he X.s_0 (fun _ => none) 0 [] []).sim) (sim_name i)⟩
theorem as_setLcM (i : Nat) (own : List (Str × Nat)) {y : Str} {py spos : Pos} (hN : X.N.Nodup) (hi : AI X tg iter wi aw) (hsw : swapsWith (.ListComp elt [⟨tg, iter, ifs, 0⟩] scope pos) (some (.Name y py)) spos.line X.env = pure true) (ok : BlkOk X.N X.env.scope scope own)
    (hg : ∀ (s : Shared) (H : Hp) (C : Addr) (cl : List (Str × Addr)) (fp : List Addr), AG (X.blk s H scope (compEnvC scope cl C X.env) fp) tg (own.map (·.2)) g ag) (ht : ∀ (s : Shared) (H : Hp) (C : Addr) (cl : List (Str × Addr)) (fp : List Addr), ATs (X.blk s H scope (compEnvC scope cl C X.env) fp) ifs tt at')
    (he : ∀ (s : Shared) (H : Hp) (C : Addr) (cl : List (Str × Addr)) (fp : List Addr), AE (X.blk s H scope (compEnvC scope cl C X.env) fp) elt te ae) (hy : X.N[i]? = some y := by rfl) (hyl : X.env.scope.names.lookup y = some .local := by rfl) (hc : X.calm = true := by rfl) (hs : ∀ x, foldedSetIterable iter X.env x = pure x := by intro _; rfl) :
    AS X (.Assign [.Name y py] (.ListComp elt [⟨tg, iter, ifs, 0⟩] scope pos) spos) (tAsg (tLc wi g tt te (own.map (·.2))) (gName i)) (aAsg (aLcM aw ag at' ae (own.map (·.2))) (aGName i)) :=
  ⟨ps_setLc hc hN hy hyl hsw hi.pi ok (fun s H C cl fp => (hg s H C cl fp).pg) (fun s H C cl fp => (ht s H C cl fp).pts) (fun s H C cl fp => (he s H C cl fp).pe) hs,
    let G := hg X.s_0 (fun _ => none) 0 [] []
    sim_asg (sim_lcM hi.sim G.sim G.inn (ht X.s_0 (fun _ => none) 0 [] []).sim (he X.s_0 (fun _ => none) 0 [] []).sim) (sim_name i)⟩
end
end
end AL
namespace AL
open PySem PySem.Spec L2
theorem law_sp {asp : ASp} {n : Nat} (h : ∀ ns : List Int, ns.length ≤ n → asp [.scr ns] (fun _ => none) (fun d _ => d = .bl true)) (K : PySem.W.Frag) (H : Hp) (a : Addr) (ns : List Int) (hn : ns.length ≤ n) (hS : SqL K H a (ns.map V.int)) :
    spOf K 1 asp [.ref a] H (fun v _ => v = .bl true) fun _ _ _ => False := by
  refine ⟨rfl, H, fun _ => none, fun _ => none, [.scr ns], fun d _ => d = .bl true, ⟨Ex.refl H, fun _ _ z => (by cases z), fun _ _ z => (by cases z)⟩, .cons (.scr hS) .nil, h ns hn, fun d v F' C' H' _ _ r e => ?_⟩
  subst e
  cases r
  rfl
end AL

namespace AL
open PySem L2
theorem atI_nat' {α : Type} {xs : List α} {i : Nat} {x : α} (h : xs[i]? = some x) : atI xs (i : Int) = some x := by
  have hi := (List.getElem?_eq_some_iff.mp h).1
  unfold atI ixN
  rw [if_pos (by omega), if_pos (by omega)]
  simpa using h
section
variable {a b : AS'} {nx : ASt → AH → Prop} {rt : D → AH → Prop} {bk ct : ASt → AH → Prop} {s : ASt} {C : AH} {e e1 e2 e3 : AE'} {t t1 t2 : AT'} {g : AG'} {P : D → AH → Prop} {PB : Bool → AH → Prop} {PA : List D → AH → Prop} {w : AI'} {aa : AA'}
/-! ### one step each -/
theorem g_body' {n : Nat} {ds : List D} {s : ASt} (h0 : ds.map some ++ List.replicate (n - ds.length) none = s) (h : a ⟨fun _ C' => P .non C', P, fun _ _ => False, fun _ _ => False⟩ s C) : aBody n a ds C P := by
  subst h0
  exact h
theorem g_gname' {i : Nat} {d : D} {Q : ASt → AH → Prop} {s' : ASt} (h0 : s.set i (some d) = s') (h : Q s' C) : aGName i d s C Q := by
  subst h0
  exact h
theorem g_body {n : Nat} {ds : List D} (h : a ⟨fun _ C' => P .non C', P, fun _ _ => False, fun _ _ => False⟩ (ds.map some ++ List.replicate (n - ds.length) none) C) : aBody n a ds C P := h
theorem g_seq (h : a ⟨b ⟨nx, rt, bk, ct⟩, rt, bk, ct⟩ s C) : aSeq a b ⟨nx, rt, bk, ct⟩ s C := h
theorem g_next (h : nx s C) : aNext ⟨nx, rt, bk, ct⟩ s C := h
theorem g_brk (h : bk s C) : aBrk ⟨nx, rt, bk, ct⟩ s C := h
theorem g_con (h : ct s C) : aCon ⟨nx, rt, bk, ct⟩ s C := h
theorem g_asg (h : e s C fun x C1 => g x s C1 nx) : aAsg e g ⟨nx, rt, bk, ct⟩ s C := h
theorem g_drop (h : e s C fun _ C1 => nx s C1) : aDrop e ⟨nx, rt, bk, ct⟩ s C := h
theorem g_ret (h : e s C rt) : aRet e ⟨nx, rt, bk, ct⟩ s C := h
theorem g_retN (h : rt .non C) : aRetN ⟨nx, rt, bk, ct⟩ s C := h
theorem g_ifS (h : t s C fun k C1 => if k = true then a ⟨nx, rt, bk, ct⟩ s C1 else b ⟨nx, rt, bk, ct⟩ s C1) : aIfS t a b ⟨nx, rt, bk, ct⟩ s C := h
theorem g_ifF (ht : ∀ K : Bool → AH → Prop, K false C → t s C K) (h : b ⟨nx, rt, bk, ct⟩ s C) : aIfS t a b ⟨nx, rt, bk, ct⟩ s C := ht _ h
theorem g_ifT (ht : ∀ K : Bool → AH → Prop, K true C → t s C K) (h : a ⟨nx, rt, bk, ct⟩ s C) : aIfS t a b ⟨nx, rt, bk, ct⟩ s C := ht _ h
/-- the cells may have turned -/
theorem g_ifFC {Z : AH → Prop} (ht : ∀ K : Bool → AH → Prop, (∀ C', Z C' → K false C') → t s C K) (h : ∀ C', Z C' → b ⟨nx, rt, bk, ct⟩ s C') : aIfS t a b ⟨nx, rt, bk, ct⟩ s C := ht _ h
/-- what a statement leaves, told by one word M -/
theorem g_cut (M : ASt → AH → Prop) (h : ∀ N : ASt → AH → Prop, (∀ s' C', M s' C' → N s' C') → a ⟨N, rt, bk, ct⟩ s C) (k : ∀ s' C', M s' C' → b ⟨nx, rt, bk, ct⟩ s' C') : aSeq a b ⟨nx, rt, bk, ct⟩ s C := h _ k
theorem g_ifJ (M : ASt → AH → Prop) (h : ∀ N : ASt → AH → Prop, (∀ s' C', M s' C' → N s' C') → aIfS t a b ⟨N, rt, bk, ct⟩ s C) (k : ∀ s' C', M s' C' → nx s' C') : aIfS t a b ⟨nx, rt, bk, ct⟩ s C := h nx k
theorem g_gname {i : Nat} {d : D} {Q : ASt → AH → Prop} (h : Q (s.set i (some d)) C) : aGName i d s C Q := h
theorem g_gtup {n : Nat} {ds : List D} {gs : AGs'} {Q : ASt → AH → Prop} (hn : ds.length = n) (h : gs ds s C Q) : aGTup n gs (.tup ds) s C Q := ⟨hn, h⟩
theorem g_gcons {d : D} {ds : List D} {gs : AGs'} {Q : ASt → AH → Prop} (h : g d s C fun s' C' => gs ds s' C' Q) : aGCons g gs (d :: ds) s C Q := h
theorem g_gnil {Q : ASt → AH → Prop} (h : Q s C) : aGNil [] s C Q := h
def kSet (p : Addr) (d : D) (s : ASt) (Q : ASt → AH → Prop) : D → AH → Prop := fun y C2 => match y with | .int j => (match C2 p with | some (.lst us) => (match ixN us.length j with | some k => Q s (put C2 p (.lst (us.set k d))) | none => False) | _ => False) | _ => False
/-- xs[i] = d, xs a name's cell -/
theorem g_gsetV {i : Nat} {d : D} {p : Addr} {Q : ASt → AH → Prop} (hi : s[i]? = some (some (.ce p))) (h : e2 s C (kSet p d s Q)) : aGSet (aVar i) e2 d s C Q := by
  unfold aGSet aVar
  rw [hi]
  refine (congrArg (e2 s C) ?_).mpr h
  funext y C2
  cases y <;> rfl
theorem g_kSet {j : Int} {p : Addr} {us : List D} {k : Nat} {d : D} {Q : ASt → AH → Prop} (h1 : C p = some (.lst us)) (h2 : ixN us.length j = some k) (h : Q s (put C p (.lst (us.set k d)))) : kSet p d s Q (.int j) C := by
  unfold kSet
  simp only [h1, h2]
  exact h
theorem g_frzL {i : Nat} {p : Addr} {ds : List D} {E : AEnds} (h0 : s[i]? = some (some (.ce p))) (h1 : C p = some (.lst ds)) (h : a E (s.set i (some (.lst ds))) (del C p)) : aFrz i a E s C := by
  unfold aFrz
  rw [h0]
  show (match C p with | some (.lst ds) => a E (s.set i (some (.lst ds))) (del C p) | some (.dk es) => a E (s.set i (some (.dk es))) (del C p) | _ => False)
  rw [h1]
  exact h
theorem g_frzK {i : Nat} {p : Addr} {ds : List (Key × D)} {E : AEnds} (h0 : s[i]? = some (some (.ce p))) (h1 : C p = some (.dk ds)) (h : a E (s.set i (some (.dk ds))) (del C p)) : aFrz i a E s C := by
  unfold aFrz
  rw [h0]
  show (match C p with | some (.lst ds) => a E (s.set i (some (.lst ds))) (del C p) | some (.dk es) => a E (s.set i (some (.dk es))) (del C p) | _ => False)
  rw [h1]
  exact h
theorem g_var {i : Nat} {d : D} (hi : s[i]? = some (some d)) (h : P d C) : aVar i s C P := by
  unfold aVar
  rw [hi]
  exact h
theorem g_yes (h : PB true C) : aYes s C PB := h
theorem g_c {d : D} (h : P d C) : aC d s C P := h
theorem g_op {r : D → D → AH → (D → AH → Prop) → Prop} (h : e1 s C fun x C1 => e2 s C1 fun y C2 => r x y C2 P) : aOp r e1 e2 s C P := h
theorem g_un {r : D → AH → (D → AH → Prop) → Prop} (h : e1 s C fun x C1 => r x C1 P) : aUn r e1 s C P := h
theorem g_I0 {f : Int → Int → D} {i j : Int} (h : P (f i j) C) : aI0 f (.int i) (.int j) C P := h
theorem g_I {c : Int → Int → Prop} {f : Int → Int → D} {i j : Int} (h1 : c i j) (h : P (f i j) C) : aI c f (.int i) (.int j) C P := ⟨h1, h⟩
theorem g_sub {i j : Int} (h : P (.int (i - j)) C) : aSub (.int i) (.int j) C P := h
theorem g_lt {i j : Int} (h : P (.bl (decide (i < j))) C) : aLt (.int i) (.int j) C P := h
theorem g_le {i j : Int} (h : P (.bl (decide (i ≤ j))) C) : aLe (.int i) (.int j) C P := h
theorem g_gt {i j : Int} (h : P (.bl (decide (j < i))) C) : aGt (.int i) (.int j) C P := h
theorem g_ge {i j : Int} (h : P (.bl (decide (j ≤ i))) C) : aGe (.int i) (.int j) C P := h
theorem g_mul {i j : Int} (h1 : CMul i j) (h : P (.int (i * j)) C) : aMul (.int i) (.int j) C P := ⟨h1, h⟩
theorem g_mulW {i j : Int} (h1 : CMulW i j) (h : P (.int (i * j)) C) : aMulW (.int i) (.int j) C P := ⟨h1, h⟩
theorem g_div {i j : Int} (h1 : CDiv i j) (h : P (.int (i / j)) C) : aDiv (.int i) (.int j) C P := ⟨h1, h⟩
theorem g_divW {i j : Int} (h1 : CDivW i j) (h : P (.int (i / j)) C) : aDivW (.int i) (.int j) C P := ⟨h1, h⟩
theorem g_mod {i j : Int} (h1 : 0 < j) (h : P (.int (i % j)) C) : aMod (.int i) (.int j) C P := ⟨h1, h⟩
theorem g_pow {i j : Int} (h1 : CPow i j) (h : P (.int (i ^ j.toNat)) C) : aPow (.int i) (.int j) C P := ⟨h1, h⟩
theorem g_addI {i j : Int} (h : P (.int (i + j)) C) : aAdd (.int i) (.int j) C P := h
theorem g_addS {i j : Str} (h1 : i.length + j.length ≤ sizeLine) (h : P (.str (i ++ j)) C) : aAdd (.str i) (.str j) C P := ⟨h1, h⟩
theorem g_addT {i j : List D} (h1 : i.length + j.length ≤ sizeLine) (h : P (.tup (i ++ j)) C) : aAdd (.tup i) (.tup j) C P := ⟨h1, h⟩
theorem g_addL {i j : List D} (h1 : i.length + j.length ≤ sizeLine) (h : P (.lst (i ++ j)) C) : aAdd (.lst i) (.lst j) C P := ⟨i, j, rfl, rfl, h1, h⟩
theorem g_addCL {p : Addr} {i j : List D} (h0 : C p = some (.lst i)) (h1 : i.length + j.length ≤ sizeLine) (h : P (.lst (i ++ j)) C) : aAdd (.ce p) (.lst j) C P := ⟨i, j, by simp [asL, h0], rfl, h1, h⟩
theorem g_eqII {i j : Int} (h : P (.bl (decide (i = j))) C) : aEq (.int i) (.int j) C P := h
theorem g_neII {i j : Int} (h : P (.bl (!decide (i = j))) C) : aNe (.int i) (.int j) C P := h
theorem g_eqBB {i j : Bool} (h : P (.bl (decide (i = j))) C) : aEq (.bl i) (.bl j) C P := h
theorem g_neBB {i j : Bool} (h : P (.bl (!decide (i = j))) C) : aNe (.bl i) (.bl j) C P := h
theorem g_eqTT {i j : Str} (h : P (.bl (decide (i = j))) C) : aEq (.str i) (.str j) C P := h
theorem g_neTT {i j : Str} (h : P (.bl (!decide (i = j))) C) : aNe (.str i) (.str j) C P := h
theorem g_eqS {x y : D} {k : Bool} (h1 : eqS x y = some k) (h : P (.bl k) C) : aEq x y C P := by
  unfold aEq aEqN
  rw [h1]
  exact h
theorem g_neS {x y : D} {k : Bool} (h1 : eqS x y = some k) (h : P (.bl (!k)) C) : aNe x y C P := by
  unfold aNe aEqN
  rw [h1]
  exact h
theorem g_eqP {x y : D} {u v : PyData} (h0 : eqS x y = none) (h1 : pdC C x = some u) (h2 : pdC C y = some v) (h3 : SeqAt.shaped u = true) (h4 : SeqAt.shaped v = true) (h : P (.bl (PyData.eqv u v)) C) : aEq x y C P := by
  unfold aEq aEqN
  rw [h0]
  exact ⟨u, v, h1, h2, h3, h4, h⟩
theorem g_neP {x y : D} {u v : PyData} (h0 : eqS x y = none) (h1 : pdC C x = some u) (h2 : pdC C y = some v) (h3 : SeqAt.shaped u = true) (h4 : SeqAt.shaped v = true) (h : P (.bl (!PyData.eqv u v)) C) : aNe x y C P := by
  unfold aNe aEqN
  rw [h0]
  exact ⟨u, v, h1, h2, h3, h4, h⟩
theorem isN1 {i : Int} : isNon (.int i) = false := rfl
theorem g_is {x : D} (h : P (.bl (isNon x)) C) : aIsN x .non C P := ⟨rfl, h⟩
theorem g_isnot {x : D} (h : P (.bl (!isNon x)) C) : aNotN x .non C P := ⟨rfl, h⟩
def kTru (PB : Bool → AH → Prop) : D → AH → Prop := fun x C1 => match truth C1 x with | some b => PB b C1 | none => False
theorem g_tru (h : e s C (kTru PB)) : aTru e s C PB := h
theorem g_kTru {x : D} {k : Bool} (h1 : truth C x = some k) (h : PB k C) : kTru PB x C := by
  unfold kTru
  rw [h1]
  exact h
theorem g_kTruB {k : Bool} (h : PB k C) : kTru PB (.bl k) C := h
def kB (PB : Bool → AH → Prop) : D → AH → Prop := fun x C1 => match x with | .bl b => PB b C1 | _ => False
theorem g_B (h : e s C (kB PB)) : aB e s C PB := h
theorem g_kB {k : Bool} (h : PB k C) : kB PB (.bl k) C := h
theorem g_and (h : t1 s C fun c C1 => if c = true then t2 s C1 PB else PB false C1) : aAnd t1 t2 s C PB := h
theorem g_or (h : t1 s C fun c C1 => if c = true then PB true C1 else t2 s C1 PB) : aOr t1 t2 s C PB := h
theorem g_not (h : t1 s C fun c C1 => PB (!c) C1) : aNot t1 s C PB := h
def kAndV (e2 : AE') (s : ASt) (P : D → AH → Prop) : D → AH → Prop := fun x C1 => match truth C1 x with | some true => e2 s C1 P | some false => P x C1 | none => False
def kOrV (e2 : AE') (s : ASt) (P : D → AH → Prop) : D → AH → Prop := fun x C1 => match truth C1 x with | some true => P x C1 | some false => e2 s C1 P | none => False
def kNotV (P : D → AH → Prop) : D → AH → Prop := fun x C1 => match truth C1 x with | some b => P (.bl (!b)) C1 | none => False
theorem g_andV (h : e1 s C (kAndV e2 s P)) : aAndV e1 e2 s C P := h
theorem g_orV (h : e1 s C (kOrV e2 s P)) : aOrV e1 e2 s C P := h
theorem g_notV (h : e1 s C (kNotV P)) : aNotV e1 s C P := h
theorem g_kAnd {k : Bool} (h1 : k = true → e2 s C P) (h2 : k = false → P (.bl false) C) : kAndV e2 s P (.bl k) C := by
  cases k
  · exact h2 rfl
  · exact h1 rfl
theorem g_kOr {k : Bool} (h1 : k = true → P (.bl true) C) (h2 : k = false → e2 s C P) : kOrV e2 s P (.bl k) C := by
  cases k
  · exact h2 rfl
  · exact h1 rfl
theorem g_kNot {k : Bool} (h : P (.bl (!k)) C) : kNotV P (.bl k) C := h
theorem g_kNot' {x : D} {k : Bool} (h1 : truth C x = some k) (h : P (.bl (!k)) C) : kNotV P x C := by
  unfold kNotV
  rw [h1]
  exact h
theorem g_if (h : t s C fun c C1 => if c = true then e1 s C1 P else e2 s C1 P) : aIf t e1 e2 s C P := h
theorem g_ite {A B : Prop} {k : Bool} (h1 : k = true → A) (h2 : k = false → B) : if k = true then A else B := by
  cases k
  · exact h2 rfl
  · exact h1 rfl
theorem g_iteD {A B : Prop} {p : Prop} [Decidable p] (h1 : p → A) (h2 : ¬ p → B) : if decide p = true then A else B := by
  by_cases h : p
  · rw [decide_eq_true h]; exact h1 h
  · rw [decide_eq_false h]; exact h2 h
theorem g_iteT {A B : Prop} (h : A) : if true = true then A else B := h
theorem g_iteF {A B : Prop} (h : B) : if false = true then A else B := h
theorem g_iteNT {A B : Prop} (h : B) : if (!true) = true then A else B := h
theorem g_iteNF {A B : Prop} (h : A) : if (!false) = true then A else B := h
theorem g_nil (h : PA [] C) : aNil s C PA := h
theorem g_cons (h : e s C fun x C1 => aa s C1 fun xs C2 => PA (x :: xs) C2) : aCons e aa s C PA := h
theorem g_tup (h : aa s C fun ds C1 => ds.length ≤ sizeLine ∧ P (.tup ds) C1) : aTup aa s C P := h
theorem g_lst (h : aa s C fun ds C1 => ds.length ≤ sizeLine ∧ P (.lst ds) C1) : aLst aa s C P := h
theorem g_lstM (h : aa s C fun ds C1 => ds.length ≤ sizeLine ∧ ∀ p, C1 p = none → P (.ce p) (put C1 p (.lst ds))) : aLstM aa s C P := h
theorem g_call {asp : ASp} (h : aa s C fun ds C1 => asp ds C1 P) : aCall asp aa s C P := h
def kIsi (T : String) (P : D → AH → Prop) : D → AH → Prop := fun x C1 => match kindOf C1 x with | some t => P (.bl (isT T t)) C1 | none => False
theorem g_isi {T : String} (h : e s C (kIsi T P)) : aIsi T e s C P := h
theorem g_kIsiI {T : String} {i : Int} (h : P (.bl (isT T "int")) C) : kIsi T P (.int i) C := h
theorem g_kIsiB {T : String} {i : Bool} (h : P (.bl (isT T "bool")) C) : kIsi T P (.bl i) C := h
theorem g_kIsiN {T : String} (h : P (.bl (isT T "NoneType")) C) : kIsi T P .non C := h
theorem g_kIsiS {T : String} {i : Str} (h : P (.bl (isT T "str")) C) : kIsi T P (.str i) C := h
theorem g_kIsiL {T : String} {i : List D} (h : P (.bl (isT T "list")) C) : kIsi T P (.lst i) C := h
theorem g_kIsiT {T : String} {i : List D} (h : P (.bl (isT T "tuple")) C) : kIsi T P (.tup i) C := h
theorem g_kIsiK {T : String} {i : List (Key × D)} (h : P (.bl (isT T "dict")) C) : kIsi T P (.dk i) C := h
theorem g_kIsi {T t : String} {x : D} (h1 : kindOf C x = some t) (h : P (.bl (isT T t)) C) : kIsi T P x C := by
  unfold kIsi
  rw [h1]
  exact h
theorem g_meth {T : String} {m : D → ASp} (h : e s C fun x C1 => isTy T C1 x = true ∧ aa s C1 fun ds C2 => m x ds C2 P) : aMeth T m e aa s C P := h
theorem g_meth0 {T : String} {m : D → ASp} (h : e s C fun x C1 => isTy T C1 x = true ∧ m x [] C1 P) : aMeth0 T m e s C P := h
theorem g_append {p : Addr} {us : List D} {d : D} (h1 : C p = some (.lst us)) (h2 : us.length < sizeLine) (h : P .non (put C p (.lst (us ++ [d])))) : aAppend (.ce p) [d] C P := by
  unfold aAppend
  show (match C p with | some (.lst us) => us.length < sizeLine ∧ P .non (put C p (.lst (us ++ [d]))) | _ => False)
  rw [h1]
  exact ⟨h2, h⟩
theorem isTy_ce {T : String} {p : Addr} {us : List D} (h1 : C p = some (.lst us)) (h2 : T = "list") : isTy T C (.ce p) = true := by
  subst h2
  simp [isTy, h1]
/-! subscripts by what stands there -/
theorem g_ixL {us : List D} {i : Int} {d : D} (h1 : atI us i = some d) (h : P d C) : aIx (.lst us) (.int i) C P := by
  show (match atI us i with | some d => P d C | none => False)
  rw [h1]; exact h
theorem g_ixT {us : List D} {i : Int} {d : D} (h1 : atI us i = some d) (h : P d C) : aIx (.tup us) (.int i) C P := by
  show (match atI us i with | some d => P d C | none => False)
  rw [h1]; exact h
theorem g_ixL0 {d : D} {us : List D} (h : P d C) : aIx (.lst (d :: us)) (.int 0) C P := g_ixL (atI_nat' (i := 0) rfl) h
theorem g_ixL1 {a d : D} {us : List D} (h : P d C) : aIx (.lst (a :: d :: us)) (.int 1) C P := g_ixL (atI_nat' (i := 1) rfl) h
theorem g_ixL2 {a b d : D} {us : List D} (h : P d C) : aIx (.lst (a :: b :: d :: us)) (.int 2) C P := g_ixL (atI_nat' (i := 2) rfl) h
theorem g_ixT0 {d : D} {us : List D} (h : P d C) : aIx (.tup (d :: us)) (.int 0) C P := g_ixT (atI_nat' (i := 0) rfl) h
theorem g_ixT1 {a d : D} {us : List D} (h : P d C) : aIx (.tup (a :: d :: us)) (.int 1) C P := g_ixT (atI_nat' (i := 1) rfl) h
theorem g_ixT2 {a b d : D} {us : List D} (h : P d C) : aIx (.tup (a :: b :: d :: us)) (.int 2) C P := g_ixT (atI_nat' (i := 2) rfl) h
theorem g_ixT3 {a b c d : D} {us : List D} (h : P d C) : aIx (.tup (a :: b :: c :: d :: us)) (.int 3) C P := g_ixT (atI_nat' (i := 3) rfl) h
theorem g_ixR {ns : List Int} {i : Int} {d : D} (h1 : atI (ns.map D.int) i = some d) (h : P d C) : aIx (.scr ns) (.int i) C P := by
  show (match atI (ns.map D.int) i with | some d => P d C | none => False)
  rw [h1]; exact h
theorem g_ixC {p : Addr} {us : List D} {i : Int} (h0 : C p = some (.lst us)) (h : aIx (.lst us) (.int i) C P) : aIx (.ce p) (.int i) C P := by
  show (match (match C p with | some (.lst us) => some us | _ => none) with | some ds => (match atI ds i with | some d => P d C | none => False) | none => False)
  rw [h0]
  exact h
theorem g_lenL {us : List D} (h : P (.int us.length) C) : aLen [.lst us] C P := h
theorem g_lenT {us : List D} (h : P (.int us.length) C) : aLen [.tup us] C P := h
theorem g_lenS {z : Str} (h1 : z.length ≤ sizeLine) (h : P (.int z.length) C) : aLen [.str z] C P := ⟨h1, h⟩
theorem g_lenR {ns : List Int} (h : P (.int ns.length) C) : aLen [.scr ns] C P := by
  show P (.int (ns.map D.int).length) C
  rw [List.length_map]; exact h
theorem g_lenC {p : Addr} {us : List D} (h0 : C p = some (.lst us)) (h : P (.int us.length) C) : aLen [.ce p] C P := by
  show (match C p with | some (.lst us) => P (.int us.length) C | some (.dk us) => P (.int us.length) C | _ => False)
  rw [h0]; exact h
theorem g_abs {i : Int} (h : P (.int (if i < 0 then -i else i)) C) : aAbs [.int i] C P := h
theorem g_max2 {i j : Int} (h : P (.int (if j > i then j else i)) C) : aMax2 [.int i, .int j] C P := h
theorem g_min2 {i j : Int} (h : P (.int (if j < i then j else i)) C) : aMin2 [.int i, .int j] C P := h
theorem g_intI {i : Int} (h : P (.int i) C) : aInt [.int i] C P := h
theorem g_intB {k : Bool} (h : P (.int (if k then 1 else 0)) C) : aInt [.bl k] C P := h
theorem g_listL {us : List D} (h : P (.lst us) C) : aListOf [.lst us] C P := h
theorem g_listT {us : List D} (h : P (.lst us) C) : aListOf [.tup us] C P := h
theorem g_listC {p : Addr} {us : List D} (h0 : C p = some (.lst us)) (h : P (.lst us) C) : aListOf [.ce p] C P := by
  show (match (match C p with | some (.lst us) => some us | _ => none) with | some us => P (.lst us) C | none => False)
  rw [h0]; exact h
theorem g_listMT {us : List D} (h : ∀ p, C p = none → P (.ce p) (put C p (.lst us))) : aListM [.tup us] C P := h
theorem g_listML {us : List D} (h : ∀ p, C p = none → P (.ce p) (put C p (.lst us))) : aListM [.lst us] C P := h
theorem g_tupleL {us : List D} (h : P (.tup us) C) : aTupleOf [.lst us] C P := h
theorem g_tupleT {us : List D} (h : P (.tup us) C) : aTupleOf [.tup us] C P := h
theorem g_all {us : List D} {bs : List Bool} (h1 : blsD us = some bs) (h : P (.bl (bs.all id)) C) : aAll [.lst us] C P := by
  show (match (some us).bind blsD with | some bs => P (.bl (bs.all id)) C | none => False)
  rw [Option.bind_some, h1]; exact h
theorem g_any {us : List D} {bs : List Bool} (h1 : blsD us = some bs) (h : P (.bl (bs.any id)) C) : aAny [.lst us] C P := by
  show (match (some us).bind blsD with | some bs => P (.bl (bs.any id)) C | none => False)
  rw [Option.bind_some, h1]; exact h
theorem g_sum {us : List D} {bs : List Int} (h1 : intsD us = some bs) (h : P (.int bs.sum) C) : aSum [.lst us] C P := by
  show (match (some us).bind intsD with | some bs => P (.int bs.sum) C | none => False)
  rw [Option.bind_some, h1]; exact h
theorem g_rev {us : List D} (h : P (.lst us.reverse) C) : aRev (.lst us) C P := h
/-! ### what is walked -/
variable {PI : List D → (AH → Prop) → AH → Prop}
def kIL (PI : List D → (AH → Prop) → AH → Prop) : D → AH → Prop := fun x C1 => match asLr C1 x with | some ds => PI ds (fun C' => asLr C' x = some ds) C1 | none => False
theorem g_il (h : e s C (kIL PI)) : aIL e s C PI := h
theorem g_kIL {us : List D} (h : PI us (fun _ => True) C) (e : ∀ C' : AH, asLr C' (.lst us) = some us) (m : (fun _ : AH => True) = fun C' : AH => asLr C' (.lst us) = some us) : kIL PI (.lst us) C := by
  show PI us (fun C' => asLr C' (.lst us) = some us) C
  rw [← m]
  exact h
theorem g_kILl {us : List D} (h : PI us (fun _ => True) C) : kIL PI (.lst us) C := g_kIL h (fun _ => rfl) (by funext C'; simp [asLr, asL])
theorem g_kILr {ns : List Int} (h : PI (ns.map D.int) (fun _ => True) C) : kIL PI (.scr ns) C := by
  show PI (ns.map D.int) (fun C' => asLr C' (.scr ns) = some (ns.map D.int)) C
  have m : (fun _ : AH => True) = fun C' : AH => asLr C' (.scr ns) = some (ns.map D.int) := by funext C'; simp [asLr]
  rw [← m]
  exact h
theorem g_kILc {p : Addr} {us : List D} (h0 : C p = some (.lst us)) (h : PI us (fun C' => C' p = some (.lst us)) C) (m : ∀ h1 h2 : AH → Prop, (∀ C, h1 C → h2 C) → PI us h1 C → PI us h2 C) : kIL PI (.ce p) C := by
  have e : ∀ C' : AH, C' p = some (.lst us) → asLr C' (.ce p) = some us := fun C' h => by simp [asLr, asL, h]
  show (match asLr C (.ce p) with | some ds => PI ds (fun C' => asLr C' (.ce p) = some ds) C | none => False)
  rw [e C h0]
  exact m _ _ e h
def kIT (PI : List D → (AH → Prop) → AH → Prop) : D → AH → Prop := fun x C1 => match asT x with | some ds => PI ds (fun _ => True) C1 | none => False
theorem g_it (h : e s C (kIT PI)) : aIT e s C PI := h
theorem g_kIT {us : List D} (h : PI us (fun _ => True) C) : kIT PI (.tup us) C := h
def kIS (PI : List D → (AH → Prop) → AH → Prop) : D → AH → Prop := fun x C1 => match x with | .str z => PI (signs z) (fun _ => True) C1 | _ => False
theorem g_is' (h : e s C (kIS PI)) : aIS e s C PI := h
theorem g_kIS {z : Str} (h : PI (signs z) (fun _ => True) C) : kIS PI (.str z) C := h
def kIR1 (PI : List D → (AH → Prop) → AH → Prop) : List D → AH → Prop := fun ds C1 => match ds with | [.int j] => -(2 ^ 62) ≤ j ∧ j < 2 ^ 62 ∧ PI (rangeD 0 j.toNat) (fun _ => True) C1 | _ => False
theorem g_ir1 (h : aa s C (kIR1 PI)) : aIR1 aa s C PI := h
theorem g_kIR1 {j : Int} (h1 : -(2 ^ 62) ≤ j) (h2 : j < 2 ^ 62) (h : PI (rangeD 0 j.toNat) (fun _ => True) C) : kIR1 PI [.int j] C := ⟨h1, h2, h⟩
def kIR2 (PI : List D → (AH → Prop) → AH → Prop) : List D → AH → Prop := fun ds C1 => match ds with | [.int i, .int j] => (-(2 ^ 62) ≤ i ∧ i < 2 ^ 62 ∧ -(2 ^ 62) ≤ j ∧ j < 2 ^ 62) ∧ PI (rangeD i (j - i).toNat) (fun _ => True) C1 | _ => False
theorem g_ir2 (h : aa s C (kIR2 PI)) : aIR2 aa s C PI := h
theorem g_kIR2 {i j : Int} (h1 : -(2 ^ 62) ≤ i ∧ i < 2 ^ 62 ∧ -(2 ^ 62) ≤ j ∧ j < 2 ^ 62) (h : PI (rangeD i (j - i).toNat) (fun _ => True) C) : kIR2 PI [.int i, .int j] C := ⟨h1, h⟩
def kIE (PI : List D → (AH → Prop) → AH → Prop) : List D → AH → Prop := fun us C1 => match us with | [x] => (match asLr C1 x with | some ds => PI (enumD ds) (fun C' => asLr C' x = some ds) C1 | none => False) | _ => False
theorem g_ie (h : aa s C (kIE PI)) : aIE aa s C PI := h
theorem g_kIE {us : List D} (h : PI (enumD us) (fun _ => True) C) : kIE PI [.lst us] C := by
  show PI (enumD us) (fun C' => asLr C' (.lst us) = some us) C
  have m : (fun _ : AH => True) = fun C' : AH => asLr C' (.lst us) = some us := by funext C'; simp [asLr, asL]
  rw [← m]
  exact h
def kIZ (PI : List D → (AH → Prop) → AH → Prop) : List D → AH → Prop := fun us C1 => match us with | [x, y] => (match asLr C1 x, asLr C1 y with | some ds, some es => PI (zipD ds es) (fun C' => asLr C' x = some ds ∧ asLr C' y = some es) C1 | _, _ => False) | _ => False
theorem g_iz (h : aa s C (kIZ PI)) : aIZ aa s C PI := h
theorem g_kIZ {us ws : List D} (h : PI (zipD us ws) (fun _ => True) C) : kIZ PI [.lst us, .lst ws] C := by
  show PI (zipD us ws) (fun C' => asLr C' (.lst us) = some us ∧ asLr C' (.lst ws) = some ws) C
  have m : (fun _ : AH => True) = fun C' : AH => asLr C' (.lst us) = some us ∧ asLr C' (.lst ws) = some ws := by funext C'; simp [asLr, asL]
  rw [← m]
  exact h
/-- a loop whose items are known -/
def kFor (g : AG') (ab : AS') (nx : ASt → AH → Prop) (rt : D → AH → Prop) (s : ASt) : List D → (AH → Prop) → AH → Prop := fun items hold C => ∃ W : Nat → ASt → AH → Prop, W 0 s C ∧ (∀ i s' C', i ≤ items.length → W i s' C' → hold C') ∧
  (∀ i d s' C', items[i]? = some d → W i s' C' → g d s' C' fun s2 C2 => ab ⟨W (i + 1), rt, nx, W (i + 1)⟩ s2 C2) ∧ ∀ s' C', W items.length s' C' → nx s' C'
theorem g_for {ab : AS'} (h : w s C (kFor g ab nx rt s)) : aFor w g ab ⟨nx, rt, bk, ct⟩ s C := h
theorem g_kFor {ab : AS'} {items : List D} (W : Nat → ASt → AH → Prop) (h0 : W 0 s C)
    (hs : ∀ i d s' C', items[i]? = some d → W i s' C' → g d s' C' fun s2 C2 => ab ⟨W (i + 1), rt, nx, W (i + 1)⟩ s2 C2) (hd : ∀ s' C', W items.length s' C' → nx s' C') : kFor g ab nx rt s items (fun _ => True) C :=
  ⟨W, h0, fun _ _ _ _ _ => trivial, hs, hd⟩
theorem g_kForH {ab : AS'} {items : List D} {hold : AH → Prop} (W : Nat → ASt → AH → Prop) (h0 : W 0 s C) (hh : ∀ i s' C', i ≤ items.length → W i s' C' → hold C')
    (hs : ∀ i d s' C', items[i]? = some d → W i s' C' → g d s' C' fun s2 C2 => ab ⟨W (i + 1), rt, nx, W (i + 1)⟩ s2 C2) (hd : ∀ s' C', W items.length s' C' → nx s' C') : kFor g ab nx rt s items hold C :=
  ⟨W, h0, hh, hs, hd⟩
theorem kFor_mono {ab : AS'} {items : List D} {h1 h2 : AH → Prop} (m : ∀ C, h1 C → h2 C) (h : kFor g ab nx rt s items h1 C) : kFor g ab nx rt s items h2 C := by
  obtain ⟨W, a, b, c, d⟩ := h
  exact ⟨W, a, fun i s' C' hi hw => m _ (b i s' C' hi hw), c, d⟩
/-- over a range -/
theorem g_kForR {ab : AS'} {lo : Int} {n j : Nat} (W : Nat → ASt → AH → Prop) (h0 : W 0 s C)
    (hs : ∀ (i : Nat) s' C', i < n → W i s' C' → ab ⟨W (i + 1), rt, nx, W (i + 1)⟩ (s'.set j (some (.int (lo + i)))) C') (hd : ∀ s' C', W n s' C' → nx s' C') : kFor (aGName j) ab nx rt s (rangeD lo n) (fun _ => True) C := by
  refine g_kFor W h0 (fun i d s' C' hi hw => ?_) (fun s' C' hw => hd s' C' (by rw [rangeD_len] at hw; exact hw))
  have hl : i < n := by
    have := (List.getElem?_eq_some_iff.mp hi).1
    rw [rangeD_len] at this
    exact this
  rw [rangeD_get hl] at hi
  cases hi
  exact hs i s' C' hl hw
theorem g_kForR0 {ab : AS'} {n j : Nat} (W : Nat → ASt → AH → Prop) (h0 : W 0 s C)
    (hs : ∀ (i : Nat) s' C', i < n → W i s' C' → ab ⟨W (i + 1), rt, nx, W (i + 1)⟩ (s'.set j (some (.int (i : Int)))) C') (hd : ∀ s' C', W n s' C' → nx s' C') : kFor (aGName j) ab nx rt s (rangeD 0 n) (fun _ => True) C :=
  g_kForR W h0 (fun i s' C' hi w => by rw [Int.zero_add]; exact hs i s' C' hi w) hd
/-- over a list of which something is known of each item -/
theorem g_kForL {ab : AS'} {items : List D} {j : Nat} (W : Nat → ASt → AH → Prop) (h0 : W 0 s C)
    (hs : ∀ (i : Nat) d s' C', items[i]? = some d → W i s' C' → ab ⟨W (i + 1), rt, nx, W (i + 1)⟩ (s'.set j (some d)) C') (hd : ∀ s' C', W items.length s' C' → nx s' C') : kFor (aGName j) ab nx rt s items (fun _ => True) C := g_kFor W h0 hs hd
theorem g_while {t : AT'} {ab : AS'} (W : Nat → ASt → AH → Prop) (m : Nat) (h0 : W m s C) (hs : ∀ m s' C', W m s' C' → t s' C' fun k C1 => if k = true then ab ⟨fun s2 C2 => ∃ m', m' < m ∧ W m' s2 C2, rt, nx, fun s2 C2 => ∃ m', m' < m ∧ W m' s2 C2⟩ s' C1 else nx s' C1) : aWhile t ab ⟨nx, rt, bk, ct⟩ s C := ⟨W, ⟨m, h0⟩, hs⟩
/-! ### comprehensions -/
def kLc (g : AG') (t : AT') (e : AE') (vs : List Nat) (fin : List D → AH → Prop) (s : ASt) : List D → (AH → Prop) → AH → Prop := fun items hold C1 => items.length ≤ sizeLine ∧ ∃ W : Nat → List D → AH → Prop, W 0 [] C1 ∧ (∀ i acc C', i ≤ items.length → W i acc C' → hold C') ∧
  (∀ i d acc C', items[i]? = some d → W i acc C' → g d (wipeA s vs) C' fun s2 C2 => t s2 C2 fun b C3 => if b = true then e s2 C3 fun y C4 => W (i + 1) (acc ++ [y]) C4 else W (i + 1) acc C3) ∧ ∀ acc C', W items.length acc C' → fin acc C'
theorem g_lc {t : AT'} {vs : List Nat} (h : w s C (kLc g t e vs (fun acc C' => P (.lst acc) C') s)) : aLc w g t e vs s C P := h
theorem g_lcM {t : AT'} {vs : List Nat} (h : w s C (kLc g t e vs (fun acc C' => ∀ p, C' p = none → P (.ce p) (put C' p (.lst acc))) s)) : aLcM w g t e vs s C P := h
theorem g_kLc {t : AT'} {vs : List Nat} {fin : List D → AH → Prop} {items : List D} (W : Nat → List D → AH → Prop) (hl : items.length ≤ sizeLine) (h0 : W 0 [] C)
    (hs : ∀ i d acc C', items[i]? = some d → W i acc C' → g d (wipeA s vs) C' fun s2 C2 => t s2 C2 fun b C3 => if b = true then e s2 C3 fun y C4 => W (i + 1) (acc ++ [y]) C4 else W (i + 1) acc C3) (hd : ∀ acc C', W items.length acc C' → fin acc C') : kLc g t e vs fin s items (fun _ => True) C :=
  ⟨hl, W, h0, fun _ _ _ _ _ => trivial, hs, hd⟩
theorem kLc_mono {t : AT'} {vs : List Nat} {fin : List D → AH → Prop} {items : List D} {h1 h2 : AH → Prop} (m : ∀ C, h1 C → h2 C) (h : kLc g t e vs fin s items h1 C) : kLc g t e vs fin s items h2 C := by
  obtain ⟨l, W, a, b, c, d⟩ := h
  exact ⟨l, W, a, fun i s' C' hi hw => m _ (b i s' C' hi hw), c, d⟩
/-- [f x for x in items], each as it stands, the cells stay -/
theorem g_kLcMap {vs : List Nat} {fin : List D → AH → Prop} {items : List D} {j : Nat} (f : D → D) (hl : items.length ≤ sizeLine) (hs : ∀ d, d ∈ items → ∀ R : D → AH → Prop, R (f d) C → e ((wipeA s vs).set j (some d)) C R) (hd : fin (items.map f) C) : kLc (aGName j) aYes e vs fin s items (fun _ => True) C := by
  refine g_kLc (fun i acc C' => acc = (items.take i).map f ∧ C' = C) hl ⟨rfl, rfl⟩ (fun i d acc C' hi hw => ?_) (fun acc C' hw => ?_)
  · obtain ⟨rfl, rfl⟩ := hw
    refine hs d (List.mem_of_getElem? hi) _ ⟨?_, rfl⟩
    rw [List.take_add_one, hi, List.map_append]
    rfl
  · obtain ⟨rfl, rfl⟩ := hw
    rw [List.take_length]
    exact hd
theorem g_kLcFilter {t : AT'} {vs : List Nat} {fin : List D → AH → Prop} {items : List D} {j : Nat} (p : D → Bool) (f : D → D) (hl : items.length ≤ sizeLine) (ht : ∀ d, d ∈ items → ∀ R : Bool → AH → Prop, R (p d) C → t ((wipeA s vs).set j (some d)) C R) (hs : ∀ d, d ∈ items → p d = true → ∀ R : D → AH → Prop, R (f d) C → e ((wipeA s vs).set j (some d)) C R) (hd : fin ((items.filter p).map f) C) : kLc (aGName j) t e vs fin s items (fun _ => True) C := by
  refine g_kLc (fun i acc C' => acc = ((items.take i).filter p).map f ∧ C' = C) hl ⟨rfl, rfl⟩ (fun i d acc C' hi hw => ?_) (fun acc C' hw => ?_)
  · obtain ⟨rfl, rfl⟩ := hw
    refine ht d (List.mem_of_getElem? hi) _ ?_
    rw [List.take_add_one, hi, List.filter_append, List.map_append]
    by_cases hp : p d = true
    · rw [if_pos hp]
      refine hs d (List.mem_of_getElem? hi) hp _ ⟨?_, rfl⟩
      simp [hp]
    · rw [if_neg hp]
      refine ⟨?_, rfl⟩
      simp [hp]
  · obtain ⟨rfl, rfl⟩ := hw
    rw [List.take_length]
    exact hd
end
theorem g_sz {n : Nat} {A : Prop} (h1 : n ≤ sizeLine) (h : A) : n ≤ sizeLine ∧ A := ⟨h1, h⟩
theorem g_ty {T : String} {C : AH} {d : D} {A : Prop} (h1 : isTy T C d = true) (h : A) : isTy T C d = true ∧ A := ⟨h1, h⟩
/-! ### cells that stand apart -/
theorem ne_cell {C : AH} {p q : Addr} {c : Cell} (h : C p = some c) (g : C q = none) : p ≠ q := fun z => by rw [z, g] at h; cases h
theorem put_old {C : AH} {p q : Addr} {c d : Cell} (h : C p = some c) (g : C q = none) : put C q d p = some c := by rw [put_ne (ne_cell h g)]; exact h
theorem put_other {C : AH} {p q : Addr} {o : Option Cell} {d : Cell} (hn : p ≠ q) (h : C p = o) : put C q d p = o := by rw [put_ne hn]; exact h
theorem del_other {C : AH} {p q : Addr} {o : Option Cell} (hn : p ≠ q) (h : C p = o) : del C q p = o := by unfold del; rw [if_neg hn]; exact h
theorem del_same {C : AH} {p : Addr} : del C p p = none := by unfold del; rw [if_pos rfl]
theorem atI_int {α : Type} {xs : List α} {i : Int} {x : α} (h0 : 0 ≤ i) (h : xs[i.toNat]? = some x) : atI xs i = some x := by
  have := atI_nat' h
  rwa [Int.toNat_of_nonneg h0] at this
end AL

namespace AL
open PySem L2
/-! ### plain trees: what == asks of them -/
mutual
def okD : D → Nat → Bool
  | .non, _ => true
  | .bl _, _ => true
  | .int _, _ => true
  | .str x, _ => x.cps.all (· < 0x110000)
  | .lst ds, n + 1 => okL ds n
  | .tup ds, n + 1 => okL ds n
  | _, _ => false
def okL : List D → Nat → Bool
  | [], _ => true
  | d :: ds, n => okD d n && okL ds n
end
theorem okL_all {ds : List D} {n : Nat} : okL ds n = true ↔ ∀ d ∈ ds, okD d n = true := by
  induction ds with
  | nil => simp [okL]
  | cons d ds ih => simp [okL, ih]
mutual
theorem okD_pd : ∀ (d : D) (n : Nat), okD d n = true → ∃ x, d.pd = some x ∧ x.canLay0 = true ∧ x.depth ≤ n
  | .non, n, _ => ⟨.none, by simp [D.pd], by simp [PyData.canLay0], by simp [PyData.depth]⟩
  | .bl b, n, _ => ⟨.bool b, by simp [D.pd], by simp [PyData.canLay0], by simp [PyData.depth]⟩
  | .int i, n, _ => ⟨.int i, by simp [D.pd], by simp [PyData.canLay0], by simp [PyData.depth]⟩
  | .str x, n, h => ⟨.str x, by simp [D.pd], by simpa [PyData.canLay0, PyData.strOk, okD] using h, by simp [PyData.depth]⟩
  | .lst ds, 0, h => by simp [okD] at h
  | .lst ds, n + 1, h => by
    obtain ⟨xs, h1, h2, h3⟩ := okL_pd ds n (by simpa [okD] using h)
    exact ⟨.list xs, by simp [D.pd, h1], by simpa [PyData.canLay0] using h2, by simp [PyData.depth]; omega⟩
  | .tup ds, 0, h => by simp [okD] at h
  | .tup ds, n + 1, h => by
    obtain ⟨xs, h1, h2, h3⟩ := okL_pd ds n (by simpa [okD] using h)
    exact ⟨.tuple xs, by simp [D.pd, h1], by simpa [PyData.canLay0] using h2, by simp [PyData.depth]; omega⟩
  | .dk _, _, h => by simp [okD] at h
  | .scr _, _, h => by simp [okD] at h
  | .ce _, _, h => by simp [okD] at h
theorem okL_pd : ∀ (ds : List D) (n : Nat), okL ds n = true → ∃ xs, pdL ds = some xs ∧ PyData.canLayAll0 xs = true ∧ PyData.depthAll xs ≤ n
  | [], n, _ => ⟨[], by simp [pdL], by simp [PyData.canLayAll0], by simp [PyData.depthAll]⟩
  | d :: ds, n, h => by
    simp only [okL, Bool.and_eq_true] at h
    obtain ⟨x, a1, a2, a3⟩ := okD_pd d n h.1
    obtain ⟨xs, b1, b2, b3⟩ := okL_pd ds n h.2
    exact ⟨x :: xs, by simp [pdL, a1, b1], by simp [PyData.canLayAll0, a2, b2], by simp [PyData.depthAll]; omega⟩
end
theorem okD_shaped {d : D} {n : Nat} (h : okD d n = true) (hn : n ≤ 64) : ∃ x, d.pd = some x ∧ SeqAt.shaped x = true ∧ PyData.eqv x x = true := by
  obtain ⟨x, h1, h2, h3⟩ := okD_pd d n h
  refine ⟨x, h1, ?_, SeqAt.eqv_refl x h2⟩
  unfold SeqAt.shaped
  rw [h2, decide_eq_true (show x.depth ≤ 64 by omega)]
  rfl
theorem eqS_self {d : D} {b : Bool} (h : eqS d d = some b) : b = true := by
  cases d <;> simp [eqS] at h <;> exact h
theorem pdC_ok' {C : AH} {d : D} {n : Nat} (h : okD d n = true) : pdC C d = d.pd := by
  cases d <;> first | rfl | (simp [okD] at h)
/-- a thing and itself -/
theorem g_eqR {C : AH} {d : D} {P : D → AH → Prop} (n : Nat) (h : okD d n = true) (hn : n ≤ 64) (k : P (.bl true) C) : aEq d d C P := by
  unfold aEq aEqN
  split
  · rename_i b e
    rw [eqS_self e]
    exact k
  · obtain ⟨x, h1, h2, h3⟩ := okD_shaped h hn
    exact ⟨x, x, (pdC_ok' h).trans h1, (pdC_ok' h).trans h1, h2, h2, by rw [h3]; exact k⟩
theorem g_neR {C : AH} {d : D} {P : D → AH → Prop} (n : Nat) (h : okD d n = true) (hn : n ≤ 64) (k : P (.bl false) C) : aNe d d C P := by
  unfold aNe aEqN
  split
  · rename_i b e
    rw [eqS_self e]
    exact k
  · obtain ⟨x, h1, h2, h3⟩ := okD_shaped h hn
    exact ⟨x, x, (pdC_ok' h).trans h1, (pdC_ok' h).trans h1, h2, h2, by rw [h3]; exact k⟩
theorem okD_lst {ds : List D} {n : Nat} (h : ∀ d ∈ ds, okD d n = true) : okD (.lst ds) (n + 1) = true := by
  simp only [okD]; exact okL_all.mpr h
theorem okD_tup {ds : List D} {n : Nat} (h : ∀ d ∈ ds, okD d n = true) : okD (.tup ds) (n + 1) = true := by
  simp only [okD]; exact okL_all.mpr h
/-! ### stands, or None -/
def oD : Option Nat → D
  | none => .non
  | some n => .int (n : Int)
@[simp] theorem okD_oD (o : Option Nat) (n : Nat) : okD (oD o) n = true := by cases o <;> simp [oD, okD]
theorem isNon_oD (o : Option Nat) : isNon (oD o) = o.isNone := by cases o <;> rfl
/-- a machine as a tree -/
abbrev goesD (goes : List (List (Option Nat))) : D := .lst (goes.map fun r => .lst (r.map oD))
abbrev endsD (ends : List Bool) : D := .lst (ends.map .bl)
abbrev machD (ends : List Bool) (goes : List (List (Option Nat))) : D := .tup [endsD ends, goesD goes]
theorem okD_goes (goes : List (List (Option Nat))) (n : Nat) : okD (goesD goes) (n + 2) = true := by
  refine okD_lst fun d hd => ?_
  obtain ⟨r, _, rfl⟩ := List.mem_map.mp hd
  refine okD_lst fun d hd => ?_
  obtain ⟨o, _, rfl⟩ := List.mem_map.mp hd
  exact okD_oD o n
theorem okD_ends (ends : List Bool) (n : Nat) : okD (endsD ends) (n + 1) = true := by
  refine okD_lst fun d hd => ?_
  obtain ⟨r, _, rfl⟩ := List.mem_map.mp hd
  simp [okD]
theorem okD_mach (ends : List Bool) (goes : List (List (Option Nat))) (n : Nat) : okD (machD ends goes) (n + 3) = true := by
  refine okD_tup fun d hd => ?_
  simp only [List.mem_cons, List.not_mem_nil, or_false] at hd
  rcases hd with rfl | rfl
  · exact okD_ends ends (n + 1)
  · exact okD_goes goes n
/-- sg signs; every stand that is led to is there -/
structure Mach (sg : Nat) (ends : List Bool) (goes : List (List (Option Nat))) : Prop where
  len : ends.length = goes.length
  pos : 0 < ends.length
  most : ends.length ≤ 1000
  row : ∀ r ∈ goes, r.length = sg
  go : ∀ r ∈ goes, ∀ t, some t ∈ r → t < ends.length
def stepO (goes : List (List (Option Nat))) (s : Option Nat) (n : Nat) : Option Nat := match s with
  | none => none
  | some t => match goes[t]? with
    | some r => (match r[n]? with | some o => o | none => none)
    | none => none
def runO (goes : List (List (Option Nat))) (s : Option Nat) (row : List Nat) : Option Nat := row.foldl (stepO goes) s
def inn (n : Nat) (s : Option Nat) : Prop := ∀ t, s = some t → t < n
theorem Mach.step {sg : Nat} {ends : List Bool} {goes : List (List (Option Nat))} (M : Mach sg ends goes) {s : Option Nat} {n : Nat} (hs : inn ends.length s) (hn : n < sg) : inn ends.length (stepO goes s n) := by
  intro t ht
  cases s with
  | none => cases ht
  | some u =>
    have hu := hs u rfl
    have hu' : u < goes.length := by rw [← M.len]; exact hu
    have hr := M.row goes[u] (List.getElem_mem hu')
    simp only [stepO, List.getElem?_eq_getElem hu', List.getElem?_eq_getElem (show n < goes[u].length by rw [hr]; exact hn)] at ht
    exact M.go goes[u] (List.getElem_mem hu') t (by rw [← ht]; exact List.getElem_mem _)
theorem Mach.run {sg : Nat} {ends : List Bool} {goes : List (List (Option Nat))} (M : Mach sg ends goes) : ∀ (row : List Nat) {s : Option Nat}, inn ends.length s → (∀ n ∈ row, n < sg) → inn ends.length (runO goes s row)
  | [], _, hs, _ => hs
  | n :: row, _, hs, hr => M.run row (M.step hs (hr n (List.mem_cons_self))) fun k hk => hr k (List.mem_cons_of_mem _ hk)
section
variable {sg : Nat} {ends : List Bool} {goes : List (List (Option Nat))} {C : AH} {P : D → AH → Prop}
theorem get_go (M : Mach sg ends goes) {u n : Nat} (hu : u < ends.length) (hn : n < sg) (h : ∀ r, goes[u]? = some r → r.length = sg → P (.lst (r.map oD)) C) : aIx (goesD goes) (.int (u : Int)) C P := by
  have hu' : u < goes.length := by rw [← M.len]; exact hu
  refine g_ixL (d := .lst (goes[u].map oD)) (atI_nat' ?_) (h goes[u] (List.getElem?_eq_getElem hu') (M.row _ (List.getElem_mem hu')))
  rw [List.getElem?_map, List.getElem?_eq_getElem hu']
  rfl
theorem get_in {r : List (Option Nat)} {n : Nat} (hn : n < r.length) (h : P (oD r[n]) C) : aIx (.lst (r.map oD)) (.int (n : Int)) C P := by
  refine g_ixL (atI_nat' ?_) h
  rw [List.getElem?_map, List.getElem?_eq_getElem hn]
  rfl
theorem get_end {u : Nat} (hu : u < ends.length) (h : P (.bl ends[u]) C) : aIx (endsD ends) (.int (u : Int)) C P := by
  refine g_ixL (atI_nat' ?_) h
  rw [List.getElem?_map, List.getElem?_eq_getElem hu]
  rfl
end
theorem stepO_some {goes : List (List (Option Nat))} {u n : Nat} {r : List (Option Nat)} (h : goes[u]? = some r) (hn : n < r.length) : stepO goes (some u) n = r[n] := by
  simp only [stepO, h, List.getElem?_eq_getElem hn]
end AL
namespace AL
open PySem L2
abbrev natsD (row : List Nat) : List D := row.map fun (n : Nat) => D.int (n : Int)
theorem natsD_get {row : List Nat} {i : Nat} {d : D} (h : (natsD row)[i]? = some d) : ∃ hi : i < row.length, d = .int (row[i] : Nat) := by
  unfold natsD at h
  rw [List.getElem?_map] at h
  cases q : row[i]? with
  | none => rw [q] at h; cases h
  | some n =>
    rw [q] at h
    obtain ⟨hi, e⟩ := List.getElem?_eq_some_iff.mp q
    cases h
    exact ⟨hi, by rw [e]⟩
@[simp] theorem natsD_len (row : List Nat) : (natsD row).length = row.length := by unfold natsD; rw [List.length_map]
theorem runO_take {goes : List (List (Option Nat))} {s : Option Nat} {row : List Nat} {i : Nat} (hi : i < row.length) : runO goes s (row.take (i + 1)) = stepO goes (runO goes s (row.take i)) row[i] := by
  unfold runO
  rw [List.take_add_one, List.getElem?_eq_getElem hi, List.foldl_append]
  rfl
theorem okD_nats (row : List Nat) (n : Nat) : okD (.lst (natsD row)) (n + 1) = true := by
  refine okD_lst fun d hd => ?_
  obtain ⟨r, _, rfl⟩ := List.mem_map.mp hd
  simp [okD]
theorem enumD_inv {ds : List D} {i : Nat} {d : D} (h : (enumD ds)[i]? = some d) : ∃ x, ds[i]? = some x ∧ d = .tup [.int i, x] := by
  have hi := (List.getElem?_eq_some_iff.mp h).1
  rw [enumD_len] at hi
  refine ⟨ds[i], List.getElem?_eq_getElem hi, ?_⟩
  rw [enumD_get (List.getElem?_eq_getElem hi)] at h
  cases h
  rfl
end AL

namespace AL
open PySem PySem.Spec L2
/-! ### dicts with keys ints and texts -/
def keyOf : D → Option Key
  | .int i => some (.inl i)
  | .str x => some (.inr x)
  | _ => none
def valD (es : List (Key × D)) (k : Key) : Option D := (es.find? fun kv => decide (kv.1 = k)).map (·.2)
def putD (es : List (Key × D)) (k : Key) (d : D) : List (Key × D) :=
  if (es.any fun kv => decide (kv.1 = k)) = true then es.map (fun kv => if kv.1 = k then (kv.1, d) else kv) else es ++ [(k, d)]
def asK (C : AH) : D → Option (List (Key × D))
  | .dk es => some es
  | .ce p => (match C p with | some (.dk es) => some es | _ => none)
  | _ => none
section
variable {K : PySem.W.Frag} {F F' : Hp} {C : AH} {R H : Hp}
theorem keyOf_ok {v : V} {d : D} {k : Key} (r : Rep K F v d) (h : keyOf d = some k) : v = kV k := by
  cases r <;> simp [keyOf] at h <;> subst h <;> rfl
theorem RepK.val (k : Key) : ∀ {vs : List (Key × V)} {ds : List (Key × D)}, RepK K F vs ds → (match valD ds k with | some d => ∃ v, valV vs k = some v ∧ Rep K F v d | none => valV vs k = none)
  | _, _, .nil => rfl
  | (j, v) :: vs, (_, d) :: ds, .cons r t => by
    have ih := RepK.val k t
    unfold valD valV at ih ⊢
    by_cases e : j = k
    · subst e
      simp only [List.find?_cons, decide_true, Option.map_some]
      exact ⟨v, rfl, r⟩
    · simp only [List.find?_cons, decide_eq_false e]
      exact ih
theorem RepK.any (k : Key) : ∀ {vs : List (Key × V)} {ds : List (Key × D)}, RepK K F vs ds → (vs.any fun kv => decide (kv.1 = k)) = ds.any fun kv => decide (kv.1 = k)
  | _, _, .nil => rfl
  | _, _, .cons r t => by rw [List.any_cons, List.any_cons, RepK.any k t]
theorem RepK.repl (k : Key) {v : V} {d : D} (r : Rep K F v d) : ∀ {vs : List (Key × V)} {ds : List (Key × D)}, RepK K F vs ds → RepK K F (vs.map fun kv => if kv.1 = k then (kv.1, v) else kv) (ds.map fun kv => if kv.1 = k then (kv.1, d) else kv)
  | _, _, .nil => .nil
  | (j, _) :: _, _, .cons q t => by
    rw [List.map_cons, List.map_cons]
    by_cases e : j = k
    · rw [if_pos e, if_pos e]; exact .cons r (RepK.repl k r t)
    · rw [if_neg e, if_neg e]; exact .cons q (RepK.repl k r t)
theorem RepK.snoc (k : Key) {v : V} {d : D} (r : Rep K F v d) : ∀ {vs : List (Key × V)} {ds : List (Key × D)}, RepK K F vs ds → RepK K F (vs ++ [(k, v)]) (ds ++ [(k, d)])
  | _, _, .nil => .cons r .nil
  | _, _, .cons q t => .cons q (RepK.snoc k r t)
theorem RepK.put (k : Key) {v : V} {d : D} (r : Rep K F v d) {vs : List (Key × V)} {ds : List (Key × D)} (h : RepK K F vs ds) : RepK K F (putK vs k v) (putD ds k d) := by
  unfold putK putD
  rw [RepK.any k h]
  split
  · exact RepK.repl k r h
  · exact RepK.snoc k r h
theorem asK_ok {v : V} {d : D} {es : List (Key × D)} (hS : Sat K F C R H) (r : Rep K F v d) (h : asK C d = some es) : ∃ a kvs, v = .ref a ∧ H a = some (.dK kvs) ∧ RepK K F kvs es := by
  cases d with
  | dk e =>
    cases h
    cases r with
    | dk h1 h2 => exact ⟨_, _, rfl, hS.ex _ _ h1, h2⟩
  | ce p =>
    cases r
    have h : (match C p with | some (.dk es) => some es | _ => none) = some es := h
    cases q : C p with
    | none => rw [q] at h; cases h
    | some c =>
      rw [q] at h
      obtain ⟨_, o, h1, h2⟩ := hS.cell p c q
      cases c with
      | dk e =>
        cases h
        cases h2 with
        | dk h3 => exact ⟨p, _, rfl, h1, h3⟩
      | _ => cases h
  | _ => cases h
end
/-- d[k] -/
def aGetK (o i : AE') : AE' := fun s C P => o s C fun x C1 => i s C1 fun y C2 => match asK C2 x, keyOf y with
  | some es, some k => (match valD es k with | some d => P d C2 | none => False)
  | _, _ => False
theorem sim_getK {K : PySem.W.Frag} {to ti : TE} {ao ai : AE'} (ho : SimE K to ao) (hi : SimE K ti ai) : SimE K (tDGet to ti) (aGetK ao ai) := by
  intro σ s F C R H Q P hs hS h k
  refine ho σ s F C R H _ _ hs hS h fun x v F1 C1 H1 e1 S1 r1 h1 => ?_
  refine hi σ s F1 C1 R H1 _ _ (hs.mono e1) S1 h1 fun y w F2 C2 H2 e2 S2 r2 h2 => ?_
  split at h2
  · rename_i es ky q1 q2
    split at h2
    · rename_i d q3
      obtain ⟨a, kvs, rfl, h3, h4⟩ := asK_ok S2 (r1.mono e2) q1
      have h5 := RepK.val ky h4
      rw [q3] at h5
      obtain ⟨u, h6, h7⟩ := h5
      refine ⟨a, u, rfl, ?_, k _ _ F2 C2 H2 (e1.trans e2) S2 h7 h2⟩
      rw [keyOf_ok r2 q2, ← h6]
      exact .k h3
    · exact h2.elim
  · exact h2.elim
theorem ae_getK {X : Cx} {pos : Pos} {o i : Expr} {to ti : TE} {ao ai : AE'} (hu : X.A.units + 1 < cLine) (ho : AE X o to ao) (hi : AE X i ti ai) (hs : NoSl i := by exact fun _ _ => rfl) : AE X (.Subscript o i pos) (tDGet to ti) (aGetK ao ai) :=
  ⟨pe_dget hu ho.pe hi.pe hs, sim_getK ho.sim hi.sim⟩
/-- k in d -/
def aInK (neg : Bool) (i o : AE') : AE' := fun s C P => i s C fun y C1 => o s C1 fun x C2 => match asK C2 x, keyOf y with
  | some es, some k => P (.bl (if neg then !(valD es k).isSome else (valD es k).isSome)) C2
  | _, _ => False
theorem valK_some {K : PySem.W.Frag} {F : Hp} {k : Key} {vs : List (Key × V)} {ds : List (Key × D)} (h : RepK K F vs ds) : (valV vs k).isSome = (valD ds k).isSome := by
  have := RepK.val k h
  cases q : valD ds k with
  | none => rw [q] at this; rw [show valV vs k = none from this]; rfl
  | some d => rw [q] at this; obtain ⟨v, e, _⟩ := this; rw [e]; rfl
theorem sim_inK {K : PySem.W.Frag} {to ti : TE} {ao ai : AE'} (ho : SimE K to ao) (hi : SimE K ti ai) : SimE K (tDIn ti to) (aInK false ai ao) := by
  intro σ s F C R H Q P hs hS h k
  refine hi σ s F C R H _ _ hs hS h fun y v F1 C1 H1 e1 S1 r1 h1 => ?_
  refine ho σ s F1 C1 R H1 _ _ (hs.mono e1) S1 h1 fun x w F2 C2 H2 e2 S2 r2 h2 => ?_
  split at h2
  · rename_i es ky q1 q2
    obtain ⟨a, kvs, rfl, h3, h4⟩ := asK_ok S2 r2 q1
    refine ⟨a, valV kvs ky, rfl, ?_, ?_⟩
    · rw [keyOf_ok r1 q2]; exact .k h3
    · rw [valK_some h4]
      exact k _ _ F2 C2 H2 (e1.trans e2) S2 (.bl _) h2
  · exact h2.elim
theorem sim_notInK {K : PySem.W.Frag} {to ti : TE} {ao ai : AE'} (ho : SimE K to ao) (hi : SimE K ti ai) : SimE K (tDNotIn ti to) (aInK true ai ao) := by
  intro σ s F C R H Q P hs hS h k
  refine hi σ s F C R H _ _ hs hS h fun y v F1 C1 H1 e1 S1 r1 h1 => ?_
  refine ho σ s F1 C1 R H1 _ _ (hs.mono e1) S1 h1 fun x w F2 C2 H2 e2 S2 r2 h2 => ?_
  split at h2
  · rename_i es ky q1 q2
    obtain ⟨a, kvs, rfl, h3, h4⟩ := asK_ok S2 r2 q1
    refine ⟨a, valV kvs ky, rfl, ?_, ?_⟩
    · rw [keyOf_ok r1 q2]; exact .k h3
    · rw [valK_some h4]
      exact k _ _ F2 C2 H2 (e1.trans e2) S2 (.bl _) h2
  · exact h2.elim
section
variable {X : Cx} {pos : Pos} {o i e : Expr} {to ti te : TE} {ao ai a : AE'}
theorem ae_inK (hu : X.A.units + 1 < cLine) (hi : AE X i ti ai) (ho : AE X o to ao) (h1 : behindInMarks .In o = false := by rfl) : AE X (.Compare i [.In] [o] pos) (tDIn ti to) (aInK false ai ao) :=
  ⟨pe_cmp (pc_din hu hi.pe ho.pe) h1, sim_inK ho.sim hi.sim⟩
theorem ae_notInK (hu : X.A.units + 1 < cLine) (hi : AE X i ti ai) (ho : AE X o to ao) (h1 : behindInMarks .NotIn o = false := by rfl) : AE X (.Compare i [.NotIn] [o] pos) (tDNotIn ti to) (aInK true ai ao) :=
  ⟨pe_cmp (pc_dnotin hu hi.pe ho.pe) h1, sim_notInK ho.sim hi.sim⟩
theorem at_inK (hu : X.A.units + 1 < cLine) (hi : AE X i ti ai) (ho : AE X o to ao) (h1 : behindInMarks .In o = false := by rfl) : AT X (.Compare i [.In] [o] pos) (tTest (tDIn ti to)) (aB (aInK false ai ao)) :=
  ⟨pt_cmp (pc_din hu hi.pe ho.pe) h1, sim_B (sim_inK ho.sim hi.sim)⟩
theorem at_notInK (hu : X.A.units + 1 < cLine) (hi : AE X i ti ai) (ho : AE X o to ao) (h1 : behindInMarks .NotIn o = false := by rfl) : AT X (.Compare i [.NotIn] [o] pos) (tTest (tDNotIn ti to)) (aB (aInK true ai ao)) :=
  ⟨pt_cmp (pc_dnotin hu hi.pe ho.pe) h1, sim_B (sim_notInK ho.sim hi.sim)⟩
/-- d[k] = e -/
def aPutK (o i e : AE') : AS' := fun E s C => e s C fun d C1 => o s C1 fun x C2 => i s C2 fun y C3 => match x, keyOf y with
  | .ce p, some k => (match C3 p with | some (.dk es) => es.length < sizeLine ∧ E.nx s (put C3 p (.dk (putD es k d))) | _ => False)
  | _, _ => False
theorem sim_putK {K : PySem.W.Frag} (ho : SimE K to ao) (hi : SimE K ti ai) (he : SimE K te a) : SimS K (sDPut to ti te) (aPutK ao ai a) := fun D' E σ s F C R H hE hs hS h => by
  refine he σ s F C R H _ _ hs hS h fun d v F1 C1 H1 e1 S1 r1 h1 => ?_
  refine ho σ s F1 C1 R H1 _ _ (hs.mono e1) S1 h1 fun x w F2 C2 H2 e2 S2 r2 h2 => ?_
  refine hi σ s F2 C2 R H2 _ _ (hs.mono (e1.trans e2)) S2 h2 fun y u F3 C3 H3 e3 S3 r3 h3 => ?_
  split at h3
  · rename_i p ky q1
    cases r2
    split at h3
    · rename_i es q2
      obtain ⟨hl, h3⟩ := h3
      obtain ⟨hF, ob, h4, h5⟩ := S3.cell p _ q2
      cases h5 with
      | dk h6 =>
        refine ⟨p, _, rfl, ?_, hE.nx s σ F3 _ _ ((e1.trans e2).trans e3) (hs.mono ((e1.trans e2).trans e3)) (S3.mutC q2 (.dk (RepK.put ky (r1.mono (e2.trans e3)) h6))) h3⟩
        rw [keyOf_ok r3 q1]
        exact .k h4 (by rw [h6.length]; exact hl)
    · exact h3.elim
  · exact h3.elim
theorem as_putK {p2 : Pos} (hu : X.A.units + 1 < cLine) (ho : AE X o to ao) (hi : AE X i ti ai) (he : AE X e te a) (hs : swapsWith e (some (.Subscript o i p2)) pos.line X.env = pure false := by rfl) : AS X (.Assign [.Subscript o i p2] e pos) (sDPut to ti te) (aPutK ao ai a) :=
  ⟨ps_dput hu ho.pe hi.pe he.pe hs, sim_putK ho.sim hi.sim he.sim⟩
/-- {} -/
def aDict0 : AE' := fun _ C P => ∀ p, C p = none → P (.ce p) (put C p (.dk []))
theorem ae_dict0 : AE X (.Dict [] [] pos) tDNewK aDict0 := ⟨pe_dnewK, fun σ s F C R H Q P hs hS h k p hp => k _ _ F _ _ (Ex.refl F) (hS.newC hp (.dk .nil)) (.ce p) (h p (hS.freeC hp))⟩
end
/-- {k: e, ..}, the keys written -/
def aPairs : List (Key × AE') → ASt → AH → (List (Key × D) → AH → Prop) → Prop
  | [], _, C, P => P [] C
  | (k, a) :: r, s, C, P => a s C fun d C1 => aPairs r s C1 fun es C2 => P ((k, d) :: es) C2
def mergeD (es more : List (Key × D)) : List (Key × D) := more.foldl (fun acc kv => putD acc kv.1 kv.2) es
def aDisp (l : List (Key × AE')) : AE' := fun s C P => aPairs l s C fun es C1 => es.length ≤ 15 ∧ ∀ p, C1 p = none → P (.ce p) (put C1 p (.dk (mergeD [] es)))
def SimPs (K : PySem.W.Frag) (trs : List (TE × TE)) (l : List (Key × AE')) : Prop := ∀ (σ : L2.St) (s : ASt) (F : Hp) (C : AH) (R H : Hp) (Q : List (V × V) → Hp → Prop) (P : List (Key × D) → AH → Prop), Slo K F s σ → Sat K F C R H → aPairs l s C P →
  (∀ es kvs F' C' H', Ex F F' → Sat K F' C' R H' → RepK K F' kvs es → P es C' → Q (kvs.map fun kv => (kV kv.1, kv.2)) H') → tPairs trs σ H Q
structure APs (X : Cx) (pos : Pos) (keys : List (Option Expr)) (vals : List Expr) (trs : List (TE × TE)) (l : List (Key × AE')) : Prop where
  pps : PPs X pos keys vals trs
  sim : SimPs X.K trs l
theorem sim_pcons {K : PySem.W.Frag} {k : Key} {te : TE} {a : AE'} {trs : List (TE × TE)} {l : List (Key × AE')} (h : SimE K te a) (g : SimPs K trs l) : SimPs K ((tC (kV k), te) :: trs) ((k, a) :: l) := by
  intro σ s F C R H Q P hs hS h0 kk
  refine h σ s F C R H _ _ hs hS h0 fun d v F1 C1 H1 e1 S1 r1 h1 => ?_
  refine g σ s F1 C1 R H1 _ _ (hs.mono e1) S1 h1 fun es kvs F2 C2 H2 e2 S2 r2 h2 => ?_
  exact kk ((k, d) :: es) ((k, v) :: kvs) F2 C2 H2 (e1.trans e2) S2 (.cons (r1.mono e2) r2) h2
theorem aps_nil {X : Cx} {pos : Pos} : APs X pos [] [] [] [] := ⟨pps_nil, fun σ s F C R H Q P hs hS h k => k [] [] F C H (Ex.refl F) hS .nil h⟩
theorem aps_str {X : Cx} {pos p : Pos} {x : Str} {j} {e : Expr} {ks : List (Option Expr)} {vs : List Expr} {te : TE} {a : AE'} {trs : List (TE × TE)} {l : List (Key × AE')} (h : AE X e te a) (g : APs X pos ks vs trs l) : APs X pos (some (.Constant (.str x) j p) :: ks) (e :: vs) ((tC (.str x), te) :: trs) ((.inr x, a) :: l) :=
  ⟨pps_cons pe_str h.pe g.pps, sim_pcons (k := .inr x) h.sim g.sim⟩
theorem aps_int {X : Cx} {pos p : Pos} {x : Int} {j} {e : Expr} {ks : List (Option Expr)} {vs : List Expr} {te : TE} {a : AE'} {trs : List (TE × TE)} {l : List (Key × AE')} (h : AE X e te a) (g : APs X pos ks vs trs l) : APs X pos (some (.Constant (.int x) j p) :: ks) (e :: vs) ((tC (.int x), te) :: trs) ((.inl x, a) :: l) :=
  ⟨pps_cons pe_int h.pe g.pps, sim_pcons (k := .inl x) h.sim g.sim⟩
theorem RepK.merge {K : PySem.W.Frag} {F : Hp} : ∀ {more : List (Key × V)} {ms : List (Key × D)} {vs : List (Key × V)} {ds : List (Key × D)}, RepK K F more ms → RepK K F vs ds → RepK K F (mergeK vs more) (mergeD ds ms)
  | _, _, _, _, .nil, h => h
  | (k, v) :: more, (_, d) :: ms, vs, ds, .cons r t, h => by
    show RepK K F (mergeK (putK vs k v) more) (mergeD (putD ds k d) ms)
    exact RepK.merge t (RepK.put k r h)
theorem sim_disp {K : PySem.W.Frag} {trs : List (TE × TE)} {l : List (Key × AE')} (h : SimPs K trs l) : SimE K (tDisp trs) (aDisp l) := by
  intro σ s F C R H Q P hs hS h0 k p hp
  have hF := hS.freeF hp
  have hC := hS.freeC hp
  have hR := hS.freeR hp
  refine h σ s F C (upd R p (.dK [])) (upd H p (.dK [])) _ _ hs (hS.setR hF hC _) h0 fun es kvs F1 C1 H1 e1 S1 r1 h1 => ?_
  obtain ⟨h15, h1⟩ := h1
  obtain ⟨f1, c1, g1⟩ := S1.priv p _ upd_same
  refine ⟨g1, kvs, rfl, by rw [r1.length]; exact h15, ?_⟩
  have S2 := (S1.outC hR (.dk .nil)).mutC put_same (.dk (RepK.merge r1 .nil))
  rw [put_put] at S2
  exact k _ _ F1 _ _ e1 S2 (.ce p) (h1 p c1)
theorem ae_disp {X : Cx} {pos : Pos} {keys : List (Option Expr)} {vals : List Expr} {trs : List (TE × TE)} {l : List (Key × AE')} (h : APs X pos keys vals trs l) (hall : keys.all (·.isSome) = true := by rfl) (hl : keys.length = vals.length := by rfl) (h0 : keys ≠ [] := by simp) (h15 : keys.length ≤ 15 := by decide) : AE X (.Dict keys vals pos) (tDisp trs) (aDisp l) :=
  ⟨pe_disp h.pps hall hl h0 h15, sim_disp h.sim⟩
/-- a, b = x, y -/
def aPar (i j : Nat) (aa : AA') : AS' := fun E s C => aa s C fun ds C1 => match ds with
  | [d, e] => E.nx ((s.set i (some d)).set j (some e)) C1
  | _ => False
theorem sim_par {K : PySem.W.Frag} {n : Nat} {ta : TA} {aa : AA'} (i j : Nat) (h : SimA K n ta aa) : SimS K (tPar i j ta) (aPar i j aa) := fun D' E σ s F C R H hE hs hS h0 => by
  refine h σ s F C R H _ _ hs hS h0 fun ds vs F1 C1 H1 e1 S1 r1 hn h1 => ?_
  split at h1
  · cases r1 with
    | cons ra t =>
      cases t with
      | cons rb t =>
        cases t
        exact ⟨_, _, rfl, hE.nx _ _ F1 C1 H1 e1 (((hs.mono e1).set ra i).set rb j) S1 h1⟩
  · exact h1.elim
theorem as_par {X : Cx} {pos : Pos} (i j : Nat) {n : Nat} {x y : Str} {a b : Expr} {ta : TA} {aa : AA'} {px py pt : Pos} {kt k2 pt2} (hN : X.N.Nodup) (ha : AA X [a, b] n ta aa) (hc : X.calm = true := by rfl) (hi : X.N[i]? = some x := by rfl) (hj : X.N[j]? = some y := by rfl) (hij : i ≠ j := by decide)
    (hx : X.env.scope.names.lookup x = some .local := by rfl) (hy : X.env.scope.names.lookup y = some .local := by rfl)
    (hw : swappedStores [.Tuple [.Name x px, .Name y py] kt pt] (.Tuple [a, b] k2 pt2) X.env = pure (some [x, y]) := by rfl)
    (hs : swapsWithSole [.Tuple [.Name x px, .Name y py] kt pt] (.Tuple [a, b] k2 pt2) pos.line X.env = pure false := by rfl) :
    AS X (.Assign [.Tuple [.Name x px, .Name y py] kt pt] (.Tuple [a, b] k2 pt2) pos) (tPar i j ta) (aPar i j aa) :=
  ⟨ps_par hc hN hi hj hij hx hy ha.pa hw hs, sim_par i j ha.sim⟩
section
variable {nx : ASt → AH → Prop} {rt : D → AH → Prop} {bk ct : ASt → AH → Prop} {s : ASt} {C : AH} {P : D → AH → Prop} {aa : AA'} {e : AE'} {i j : Nat} {p : Addr}
def kPar (i j : Nat) (nx : ASt → AH → Prop) (s : ASt) : List D → AH → Prop := fun ds C1 => match ds with
  | [d, e] => nx ((s.set i (some d)).set j (some e)) C1
  | _ => False
theorem g_par (h : aa s C (kPar i j nx s)) : aPar i j aa ⟨nx, rt, bk, ct⟩ s C := (congrArg (aa s C) (by funext ds C1; rfl)).mpr h
theorem g_kPar {d e : D} {s' : ASt} (h0 : (s.set i (some d)).set j (some e) = s') (h : nx s' C) : kPar i j nx s [d, e] C := by
  subst h0
  exact h
theorem g_neg {z : Int} (h : P (.int (-z)) C) : aNeg (.int z) C P := h
/-! a pen: script, at, left -/
def penD (x y z : D) : Cell := .dk [(.inr "script", x), (.inr "at", y), (.inr "left", z)]
theorem g_pen0 {x y z : D} (hi : s[i]? = some (some (.ce p))) (h1 : C p = some (penD x y z)) (h : P x C) : aGetK (aVar i) (aC (.str "script")) s C P := by
  refine g_var hi ?_
  show (match (match C p with | some (.dk es) => some es | _ => none), keyOf (.str "script") with | some es, some k => (match valD es k with | some d => P d C | none => False) | _, _ => False)
  rw [h1]
  exact h
theorem g_pen1 {x y z : D} (hi : s[i]? = some (some (.ce p))) (h1 : C p = some (penD x y z)) (h : P y C) : aGetK (aVar i) (aC (.str "at")) s C P := by
  refine g_var hi ?_
  show (match (match C p with | some (.dk es) => some es | _ => none), keyOf (.str "at") with | some es, some k => (match valD es k with | some d => P d C | none => False) | _, _ => False)
  rw [h1]
  exact h
theorem g_pen2 {x y z : D} (hi : s[i]? = some (some (.ce p))) (h1 : C p = some (penD x y z)) (h : P z C) : aGetK (aVar i) (aC (.str "left")) s C P := by
  refine g_var hi ?_
  show (match (match C p with | some (.dk es) => some es | _ => none), keyOf (.str "left") with | some es, some k => (match valD es k with | some d => P d C | none => False) | _, _ => False)
  rw [h1]
  exact h
def kPut (i : Nat) (x : Str) (nx : ASt → AH → Prop) (s : ASt) : D → AH → Prop := fun d C1 => aVar i s C1 fun x' C2 => match x' with
  | .ce p => (match C2 p with | some (.dk es) => es.length < sizeLine ∧ nx s (put C2 p (.dk (putD es (.inr x) d))) | _ => False)
  | _ => False
theorem g_putK {x : Str} (h : e s C (kPut i x nx s)) : aPutK (aVar i) (aC (.str x)) e ⟨nx, rt, bk, ct⟩ s C := by
  refine (congrArg (e s C) ?_).mpr h
  funext d C1
  refine congrArg (aVar i s C1) ?_
  funext y C2
  cases y <;> rfl
theorem g_kPut1 {x y z d : D} (hi : s[i]? = some (some (.ce p))) (h1 : C p = some (penD x y z)) (h : nx s (put C p (penD x d z))) : kPut i "at" nx s d C := by
  refine g_var hi ?_
  show (match C p with | some (.dk es) => es.length < sizeLine ∧ nx s (put C p (.dk (putD es (.inr "at") d))) | _ => False)
  rw [h1]
  exact ⟨by show 3 < sizeLine; decide, h⟩
theorem g_kPut2 {x y z d : D} (hi : s[i]? = some (some (.ce p))) (h1 : C p = some (penD x y z)) (h : nx s (put C p (penD x y d))) : kPut i "left" nx s d C := by
  refine g_var hi ?_
  show (match C p with | some (.dk es) => es.length < sizeLine ∧ nx s (put C p (.dk (putD es (.inr "left") d))) | _ => False)
  rw [h1]
  exact ⟨by show 3 < sizeLine; decide, h⟩
theorem g_newPen {x y : D} (hi : s[i]? = some (some x)) (hj : s[j]? = some (some y)) (h : ∀ p, C p = none → P (.ce p) (put C p (penD x y (.int 0)))) : aDisp [(.inr "script", aVar i), (.inr "at", aVar j), (.inr "left", aC (.int 0))] s C P := by
  simp only [aDisp, aPairs]
  exact g_var hi (g_var hj (g_c ⟨by simp, h⟩))
end
end AL

namespace AL
open PySem PySem.Spec L2
section
variable {s : ASt} {C : AH} {P : D → AH → Prop} {a e : AE'} {l h : AO'} {PO : Option Int → AH → Prop}
/-! slices -/
theorem g_sl {r : D → Option Int → Option Int → AH → (D → AH → Prop) → Prop} (h0 : a s C fun x C1 => l s C1 fun i C2 => h s C2 fun j C3 => r x i j C3 P) : aSl r a l h s C P := h0
theorem g_noPart (h0 : PO none C) : aNoPart s C PO := h0
def kPart (PO : Option Int → AH → Prop) : D → AH → Prop := fun x C1 => match x with | .int i => PO (some i) C1 | _ => False
theorem g_part (h0 : e s C (kPart PO)) : aPart e s C PO := (congrArg (e s C) (by funext x C1; cases x <;> rfl)).mpr h0
theorem g_kPart {i : Int} (h0 : PO (some i) C) : kPart PO (.int i) C := h0
theorem cutD_take (ds : List D) (j : Nat) : cutD ds none (some (j : Int)) = ds.take j := by
  unfold cutD
  rw [HT.sIx_none, HT.sIx_nat, List.drop_zero, Nat.sub_zero]
  by_cases hj : j ≤ ds.length
  · rw [Nat.min_eq_left hj]
  · rw [Nat.min_eq_right (by omega), List.take_of_length_le (by omega), List.take_of_length_le (by omega)]
theorem cutD_drop (ds : List D) (j : Nat) : cutD ds (some (j : Int)) none = ds.drop j := by
  unfold cutD
  rw [HT.sIx_none, HT.sIx_nat]
  by_cases hj : j ≤ ds.length
  · rw [Nat.min_eq_left hj, List.take_of_length_le (by rw [List.length_drop]; omega)]
  · rw [Nat.min_eq_right (by omega), List.drop_eq_nil_of_le (Nat.le_refl _), List.drop_eq_nil_of_le (by omega)]
    simp
theorem g_cutTake {us : List D} {j : Nat} (h0 : P (.lst (us.take j)) C) : aCut (.lst us) none (some (j : Int)) C P := by
  show P (.lst (cutD us none (some (j : Int)))) C
  rw [cutD_take]; exact h0
theorem g_cutDrop {us : List D} {j : Nat} (h0 : P (.lst (us.drop j)) C) : aCut (.lst us) (some (j : Int)) none C P := by
  show P (.lst (cutD us (some (j : Int)) none)) C
  rw [cutD_drop]; exact h0
/-! extend -/
theorem g_extend {p : Addr} {us ws : List D} (h1 : C p = some (.lst us)) (h2 : us.length + ws.length ≤ sizeLine) (h0 : P .non (put C p (.lst (us ++ ws)))) : aExtend (.ce p) [.lst ws] C P := by
  show (match C p, asL C (.lst ws) with | some (.lst us), some ws => us.length + ws.length ≤ sizeLine ∧ P .non (put C p (.lst (us ++ ws))) | _, _ => False)
  rw [h1]
  exact ⟨h2, h0⟩
end
end AL

namespace AL
open PySem PySem.Spec PyProof.Rows L2
section
variable {X : Cx} {K : PySem.W.Frag}
/-! ### list(a text) -/
def signsV (z : Str) : List V := z.cps.toList.map fun c => V.str ⟨#[c]⟩
def kLstS (x : V) (H : Hp) (Q : VK) : Prop := ∃ z, x = .str z ∧ z.cps.size ≤ sizeLine ∧ ∀ q, H q = none → Q (.ref q) (upd H q (.lst (signsV z)))
theorem rl_listS (hc : X.calm = true) (pins : List (Addr × Obj)) (s : Shared) (σ : L2.St) (H : Hp) (x : V) (v : Value) (Q : VK) (I : Inv X pins σ H s) (r : RelV x v) (h : kLstS x H Q) :
    wpAny (model X.prog X.w) X.A (call (.type "list") [v]) (EP X pins σ Q) X.xe s := by
  obtain ⟨z, rfl, hz, q⟩ := h
  obtain ⟨t, rfl⟩ := r
  refine PySem.call_list_str (I.ok.hd hc) z t (hn := hz) fun h' tk acc c' hk e hi => ?_
  refine ⟨.ref s.heap.objs.size, upd H s.heap.objs.size (.lst (signsV z)), I.laid hk (Nat.le_refl _) ⟨by unfold signsV; rw [List.length_map, Array.length_toList]; exact hz, acc.toList, c', ?_, by rw [Array.toArray_toList]; exact e⟩, rfl, q _ (I.hok.fresh (Nat.le_refl _))⟩
  refine vals_of_idx _ _ (by unfold signsV; rw [List.length_map, Array.length_toList, Array.length_toList]; exact hi.1) fun j u hj => ?_
  obtain ⟨c, t', hc, rfl⟩ := hi.2 j u (by rw [← Array.getElem?_toList]; exact hj)
  refine ⟨.str ⟨#[c]⟩, ?_, ⟨_, rfl⟩⟩
  unfold signsV
  rw [List.getElem?_map, Array.getElem?_toList, hc]
  rfl
theorem signs_rep {F : Hp} (z : Str) : RepL K F (signsV z) (signs z) := by
  unfold signsV signs
  induction z.cps.toList with
  | nil => exact .nil
  | cons c l ih => exact .cons (.str _) ih
def aListS : ASp := fun ds C P => match ds with | [.str z] => z.cps.size ≤ sizeLine ∧ P (.lst (signs z)) C | _ => False
def aListSM : ASp := fun ds C P => match ds with | [.str z] => z.cps.size ≤ sizeLine ∧ ∀ p, C p = none → P (.ce p) (put C p (.lst (signs z))) | _ => False
theorem ac_listS (hc : X.calm = true := by rfl) : ACa X (.type "list") (r1 kLstS) aListS := ⟨call_r1 (rl_listS hc), by
  intro vs ds F C R H Q P hS r h k
  unfold aListS at h
  split at h
  · cases r with
    | cons r1 r2 =>
      cases r2
      cases r1
      refine ⟨_, rfl, h.1, fun p hp => ?_⟩
      rename_i z
      have e := Ex.new (o := .lst (signsV z)) (hS.freeF hp)
      exact k _ _ _ C _ e (hS.newF hp _) (.lst upd_same ((signs_rep _).mono e)) h.2
  · exact h.elim⟩
theorem ac_listSM (hc : X.calm = true := by rfl) : ACa X (.type "list") (r1 kLstS) aListSM := ⟨call_r1 (rl_listS hc), by
  intro vs ds F C R H Q P hS r h k
  unfold aListSM at h
  split at h
  · cases r with
    | cons r1 r2 =>
      cases r2
      cases r1
      refine ⟨_, rfl, h.1, fun p hp => ?_⟩
      exact k _ _ _ _ _ (Ex.refl F) (hS.newC hp (.lst (signs_rep _))) (.ce p) (h.2 p (hS.freeC hp))
  · exact h.elim⟩
/-! ### sep.join -/
def aJoin : D → ASp := fun x ds C P => match x, ds with
  | .str a, [d] => (match (asS C d).bind strsD with | some ys => (ys.map (·.length)).sum + ys.length * a.length ≤ 16777216 ∧ P (.str (Txt.join a ys)) C | none => False)
  | _, _ => False
theorem am_join : AMt X "str.join" (fun x xs H Q => ∃ a p, ∃ ys : List Str, x = .str a ∧ xs = [.ref p] ∧ (SqL X.K H p (ys.map V.str) ∨ SqT X.K H p (ys.map V.str)) ∧
    (ys.map (·.length)).sum + ys.length * a.length ≤ 16777216 ∧ Q (.str (Txt.join a ys)) H) aJoin := ⟨fun pins s σ H x xs v us Q I r1 r2 h => mt_join pins s σ H x xs v us Q I r1 r2 h, by
  intro v d vs ds F C R H Q P hS r1 r2 h k
  unfold aJoin at h
  split at h
  · cases r1
    cases r2 with
    | cons r2 r3 =>
      cases r3
      split at h
      · rename_i ys e
        obtain ⟨us, e1, e2⟩ := Option.bind_eq_some_iff.mp e
        obtain ⟨a, xs, e3, h1, h2⟩ := asS_ok hS r2 e1
        have e4 := strs_ok e2
        subst e4
        have e5 := h2.ofStrs
        subst e5
        exact ⟨_, a, ys, rfl, by rw [e3], h1, h.1, k _ _ F C H (Ex.refl F) hS (.str _) h.2⟩
      · exact h.elim
  · exact h.elim⟩
/-! ### x in (a, b, ..), flat things -/
def toV : D → Option V
  | .non => some .non
  | .bl b => some (.bl b)
  | .int i => some (.int i)
  | .str x => some (.str x)
  | _ => none
def toVs : List D → Option (List V)
  | [] => some []
  | d :: ds => match toV d, toVs ds with | some v, some vs => some (v :: vs) | _, _ => none
theorem toV_ok {F : Hp} {v u : V} {d : D} (r : Rep K F v d) (h : toV d = some u) : v = u ∧ flatV u = true := by
  cases r <;> simp [toV] at h <;> subst h <;> exact ⟨rfl, rfl⟩
theorem toVs_ok {F : Hp} : ∀ {vs us : List V} {ds : List D}, RepL K F vs ds → toVs ds = some us → vs = us ∧ us.all flatV = true
  | _, _, _, .nil, h => by cases h; exact ⟨rfl, rfl⟩
  | _, us, d :: ds, .cons r t, h => by
    unfold toVs at h
    split at h
    · rename_i v vs e1 e2
      cases h
      obtain ⟨a1, a2⟩ := toV_ok r e1
      obtain ⟨b1, b2⟩ := toVs_ok t e2
      subst a1 b1
      exact ⟨rfl, by simp [a2, b2]⟩
    · cases h
def aIn (neg : Bool) : D → D → AH → (D → AH → Prop) → Prop := fun x y C P => match toV x, (asS C y).bind toVs with
  | some u, some us => P (.bl (if neg then !inV u us else inV u us)) C
  | _, _ => False
abbrev aInL := aIn false
abbrev aNinL := aIn true
theorem sim_in (neg : Bool) : SimR2 K (rIn K neg) (aIn neg) := by
  intro v w d e F C R H Q P hS r1 r2 h k
  unfold aIn at h
  split at h
  · rename_i u us e1 e2
    obtain ⟨ds, e3, e4⟩ := Option.bind_eq_some_iff.mp e2
    obtain ⟨a, xs, rfl, h1, h2⟩ := asS_ok hS r2 e3
    obtain ⟨a1, a2⟩ := toV_ok r1 e1
    obtain ⟨b1, b2⟩ := toVs_ok h2 e4
    subst a1 b1
    exact ⟨a, xs, rfl, h1, a2, b2, k _ _ F C H (Ex.refl F) hS (.bl _) h⟩
  · exact h.elim
theorem ao_inL (hK : X.K = K := by rfl) : AOp X (compareOp .In) (rIn K false) aInL := by subst hK; exact ⟨op_in_seq, sim_in false⟩
theorem ao_ninL (hK : X.K = K := by rfl) : AOp X (compareOp .NotIn) (rIn K true) aNinL := by subst hK; exact ⟨op_notIn_seq, sim_in true⟩
/-! ### what is never reached -/
def aNo : AE' := fun _ _ _ => False
def aNoS : AS' := fun _ _ _ => False
theorem ae_no {e : Expr} : AE X e (fun _ _ _ => False) aNo := ⟨⟨fun _ _ _ _ _ _ h => h.elim⟩, fun _ _ _ _ _ _ _ _ _ _ h _ => h.elim⟩
theorem as_no {st : Stmt} : AS X st (fun _ _ _ => False) aNoS := ⟨⟨fun _ _ _ _ _ _ h => h.elim⟩, fun _ _ _ _ _ _ _ _ _ _ _ h => h.elim⟩
end
/-! ### one step each -/
section
variable {s : ASt} {C : AH} {P : D → AH → Prop}
theorem g_listSM {z : Str} (h1 : z.cps.size ≤ sizeLine) (h : ∀ p, C p = none → P (.ce p) (put C p (.lst (signs z)))) : aListSM [.str z] C P := ⟨h1, h⟩
theorem g_listS {z : Str} (h1 : z.cps.size ≤ sizeLine) (h : P (.lst (signs z)) C) : aListS [.str z] C P := ⟨h1, h⟩
theorem g_joinL {a : Str} {ys : List Str} (h1 : (ys.map (·.length)).sum + ys.length * a.length ≤ 16777216) (h : P (.str (Txt.join a ys)) C) : aJoin (.str a) [.lst (ys.map D.str)] C P := by
  show (match strsD (ys.map D.str) with | some ys => _ | none => False)
  rw [strs_map]
  exact ⟨h1, h⟩
theorem g_joinT {a : Str} {ys : List Str} (h1 : (ys.map (·.length)).sum + ys.length * a.length ≤ 16777216) (h : P (.str (Txt.join a ys)) C) : aJoin (.str a) [.tup (ys.map D.str)] C P := by
  show (match strsD (ys.map D.str) with | some ys => _ | none => False)
  rw [strs_map]
  exact ⟨h1, h⟩
theorem g_in {neg : Bool} {x : D} {u : V} {ds : List D} {us : List V} (h1 : toV x = some u) (h2 : toVs ds = some us) (h : P (.bl (if neg then !inV u us else inV u us)) C) : aIn neg x (.tup ds) C P := by
  show (match toV x, toVs ds with | some u, some us => P (.bl (if neg then !inV u us else inV u us)) C | _, _ => False)
  rw [h1, h2]
  exact h
theorem g_popAt {p : Addr} {us : List D} {i : Nat} {d : D} (h1 : C p = some (.lst us)) (hi : i < 2 ^ 63) (h2 : us[i]? = some d) (h : P d (put C p (.lst (us.eraseIdx i)))) : aPopAt (.ce p) [.int (i : Int)] C P := by
  show (match C p with | some (.lst us) => -(2 ^ 63) ≤ (i : Int) ∧ (i : Int) < 2 ^ 63 ∧ (match seqIndex? (i : Int) us.length with | some k => (match us[k]? with | some d => P d (put C p (.lst (us.eraseIdx k))) | none => False) | none => False) | _ => False)
  rw [h1]
  refine ⟨by omega, by omega, ?_⟩
  have hl := (List.getElem?_eq_some_iff.mp h2).1
  have e : seqIndex? (i : Int) us.length = some i := by
    unfold seqIndex?
    simp
    omega
  rw [e]
  show (match us[i]? with | some d => P d (put C p (.lst (us.eraseIdx i))) | none => False)
  rw [h2]
  exact h
end
end AL
namespace AL
open PySem PySem.Spec L2
theorem ass_no {X : Cx} {st : List Stmt} : ASs X st (fun _ _ _ => False) aNoS := ⟨⟨fun _ _ _ _ _ _ h => h.elim⟩, fun _ _ _ _ _ _ _ _ _ _ _ h => h.elim⟩
end AL

namespace AL
open PySem PySem.Spec PyProof.Rows L2
/-! ### texts of valid signs -/
def okS (z : Str) : Prop := ∀ c ∈ z.cps.toList, c < 0x110000
def One (z : Str) : Prop := ∃ c : Nat, z = ⟨#[c]⟩ ∧ c < 0x110000
abbrev strsL (ys : List Str) : List D := ys.map D.str
def chars (z : Str) : List Str := z.cps.toList.map fun c => ⟨#[c]⟩
theorem len_toList (z : Str) : z.cps.toList.length = z.length := Array.length_toList
theorem One.len {z : Str} (h : One z) : z.length = 1 := by obtain ⟨c, rfl, _⟩ := h; rfl
theorem One.ok {z : Str} (h : One z) : okS z := by
  obtain ⟨c, rfl, hc⟩ := h
  intro d hd
  have : d = c := by simpa using hd
  rw [this]; exact hc
theorem signs_chars (z : Str) : signs z = strsL (chars z) := by
  unfold signs strsL chars
  rw [List.map_map]
  rfl
theorem chars_len (z : Str) : (chars z).length = z.length := by unfold chars; rw [List.length_map, len_toList]
theorem chars_one {z : Str} (h : okS z) : ∀ y ∈ chars z, One y := by
  intro y hy
  obtain ⟨c, hc, rfl⟩ := List.mem_map.mp hy
  exact ⟨c, rfl, h c hc⟩
theorem joinL_nil : ∀ ps : List (List Nat), TL.joinL [] ps = ps.flatten
  | [] => rfl
  | [p] => by simp [TL.joinL]
  | p :: q :: r => by
    show p ++ ([] ++ TL.joinL [] (q :: r)) = _
    rw [joinL_nil (q :: r), List.nil_append]
    simp
theorem join_toList (ys : List Str) : (Txt.join "" ys).cps.toList = (ys.map fun y => y.cps.toList).flatten := by
  rw [TL.join_eq]
  have h := TL.tl_join "" ys
  have e : TL.tl "" = [] := by decide +kernel
  rw [e, joinL_nil] at h
  exact h
theorem join_len (ys : List Str) : (Txt.join "" ys).length = (ys.map (·.length)).sum := by
  rw [← len_toList, join_toList, List.length_flatten, List.map_map]
  congr 1
theorem join_ok {ys : List Str} (h : ∀ y ∈ ys, okS y) : okS (Txt.join "" ys) := by
  intro c hc
  rw [join_toList] at hc
  obtain ⟨l, hl, hc⟩ := List.mem_flatten.mp hc
  obtain ⟨y, hy, rfl⟩ := List.mem_map.mp hl
  exact h y hy c hc
theorem ones_len {ys : List Str} (h : ∀ y ∈ ys, One y) : (ys.map (·.length)).sum = ys.length := by
  induction ys with
  | nil => rfl
  | cons y ys ih =>
    rw [List.map_cons, List.sum_cons, ih fun z hz => h z (List.mem_cons_of_mem _ hz), (h y (List.mem_cons_self ..)).len, List.length_cons]
    omega
theorem erase_map (ys : List Str) : ∀ i, (strsL ys).eraseIdx i = strsL (ys.eraseIdx i) := by
  induction ys with
  | nil => intro i; rfl
  | cons y ys ih =>
    intro i
    cases i with
    | zero => rfl
    | succ i =>
      show D.str y :: (strsL ys).eraseIdx i = D.str y :: strsL (ys.eraseIdx i)
      rw [ih]
section
variable {C : AH} {P : D → AH → Prop}
theorem len_empty : ("" : Str).length = 0 := by decide +kernel
theorem g_joinE {ys : List Str} (h1 : (ys.map (·.length)).sum ≤ 16777216) (h : P (.str (Txt.join "" ys)) C) : aJoin (.str "") [.lst (strsL ys)] C P := g_joinL (by rw [len_empty]; omega) h
theorem g_joinET {ys : List Str} (h1 : (ys.map (·.length)).sum ≤ 16777216) (h : P (.str (Txt.join "" ys)) C) : aJoin (.str "") [.tup (strsL ys)] C P := g_joinT (by rw [len_empty]; omega) h
theorem g_ixS {z : Str} {i : Nat} (hz : okS z) (hl : z.length ≤ sizeLine) (hi : i < z.length) (k : ∀ y, One y → P (.str y) C) : aIx (.str z) (.int (i : Int)) C P := by
  have hi' : i < z.cps.toList.length := by rw [len_toList]; exact hi
  show z.length ≤ sizeLine ∧ (match atI z.cps.toList (i : Int) with | some c => P (.str ⟨#[c]⟩) C | none => False)
  refine ⟨hl, ?_⟩
  rw [atI_nat' (List.getElem?_eq_getElem hi')]
  exact k _ ⟨_, rfl, hz _ (List.getElem_mem hi')⟩
theorem g_popS {p : Addr} {ys : List Str} {i : Nat} (h1 : C p = some (.lst (strsL ys))) (hi : i < ys.length) (h64 : ys.length < 2 ^ 62) (h : P (.str ys[i]) (put C p (.lst (strsL (ys.eraseIdx i))))) : aPopAt (.ce p) [.int (i : Int)] C P := by
  refine g_popAt (d := .str ys[i]) h1 (by omega) ?_ ?_
  · unfold strsL
    rw [List.getElem?_map, List.getElem?_eq_getElem hi]
    rfl
  · rw [erase_map]; exact h
end
end AL

namespace AL
open PySem PySem.Spec PyProof.Rows L2
section
variable {X : Cx} {K : PySem.W.Frag}
/-! ### lists of ints in order -/
theorem holdAll_ints {h : Heap} : ∀ {vs : List Value} {ns : List Int}, Vals (ns.map V.int) vs → PySem.W.HoldAll h vs ns
  | _, [], .nil => ⟨_, .nil⟩
  | _, n :: ns, r => by
    rw [List.map_cons] at r
    cases r with
    | cons r1 r2 =>
      obtain ⟨t, rfl⟩ := r1
      obtain ⟨as, ra⟩ := holdAll_ints r2
      exact ⟨_, .cons (.int n t) ra⟩
def rLtLi (K : PySem.W.Frag) : R2 := fun x y H Q => ∃ a b ns ms, x = .ref a ∧ y = .ref b ∧ SqL K H a (ns.map V.int) ∧ SqL K H b (ms.map V.int) ∧ Q (.bl (PySem.W.listLt ns ms)) H
theorem op_ltLi (hu : X.A.units + 64 < cLine) : OpR X (compareOp .Lt) (rLtLi X.K) := by
  intro pins s σ H x y v u Q I rx ry h
  obtain ⟨a, b, ns, ms, rfl, rfl, ha, hb, q⟩ := h
  cases rx
  cases ry
  obtain ⟨its, r1, p1, _⟩ := I.list ha
  obtain ⟨its2, r2, p2, _⟩ := I.list hb
  refine PySem.W.lt_datum (α := List Int) (PySem.W.holds_list p1.isList (by rw [List.toList_toArray]; exact holdAll_ints r1)) (PySem.W.holds_list p2.isList (by rw [List.toList_toArray]; exact holdAll_ints r2)) ?_ ⟨.bl (PySem.W.listLt ns ms), H, I, rfl, q⟩
  show X.A.units + 1 < cLine
  omega
def aLtL : D → D → AH → (D → AH → Prop) → Prop := fun x y C P => match (asLr C x).bind intsD, (asLr C y).bind intsD with
  | some ns, some ms => P (.bl (PySem.W.listLt ns ms)) C
  | _, _ => False
theorem sim_ltL : SimR2 K (rLtLi K) aLtL := by
  intro v w d e F C R H Q P hS r1 r2 h k
  unfold aLtL at h
  split at h
  · rename_i ns ms e1 e2
    obtain ⟨us, f1, f2⟩ := Option.bind_eq_some_iff.mp e1
    obtain ⟨ws, g1, g2⟩ := Option.bind_eq_some_iff.mp e2
    obtain ⟨a, xs, rfl, h1, h2⟩ := asLr_ok hS r1 f1
    obtain ⟨b, ys, rfl, h3, h4⟩ := asLr_ok hS r2 g1
    have i1 := ints_ok f2
    have i2 := ints_ok g2
    subst i1 i2
    have j1 := h2.ofInts
    have j2 := h4.ofInts
    subst j1 j2
    exact ⟨a, b, ns, ms, rfl, rfl, h1, h3, k _ _ F C H (Ex.refl F) hS (.bl _) h⟩
  · exact h.elim
theorem ao_ltL (hu : X.A.units + 64 < cLine) (hK : X.K = K := by rfl) : AOp X (compareOp .Lt) (rLtLi K) aLtL := by subst hK; exact ⟨op_ltLi hu, sim_ltL⟩
/-! ### s[::-1] of a text -/
def revS (z : Str) : Str := ⟨((PySem.Builtin.Str.strSliceIndices none none (-1) z.length).filterMap (z.cps[·]?)).toArray⟩
theorem revS_toList (z : Str) : (revS z).cps.toList = z.cps.toList.reverse := by
  unfold revS
  rw [List.toList_toArray, PyProof.Rows.picked_rev, PyProof.Rows.filterMap_get]
  · rw [List.map_map]
    refine List.ext_getElem (by simp [Str.length]) fun i h1 h2 => ?_
    have hi : i < z.cps.size := by simpa [Str.length] using h1
    simp only [List.getElem_map, List.getElem_range, Function.comp, List.getElem_reverse, Array.getElem_toList, Array.length_toList]
    have hj : z.length - 1 - i < z.cps.size := by show z.cps.size - 1 - i < _; omega
    rw [Array.getD, dif_pos hj]
    rfl
  · intro i hi
    obtain ⟨k, hk, rfl⟩ := List.mem_map.mp hi
    have hk' : k < z.length := List.mem_range.mp hk
    show z.length - 1 - k < z.length
    omega
theorem revS_len (z : Str) : (revS z).length = z.length := by rw [← len_toList, revS_toList, List.length_reverse, len_toList]
def tRevS (te : TE) : TE := fun σ H Q => te σ H fun x H1 => ∃ z, x = .str z ∧ z.length ≤ sizeLine ∧ Q (.str (revS z)) H1
theorem pe_revS {e : Expr} {te : TE} {k : Nat} {p1 p2 p3 pos : Pos} (he : PE X e te) : PE X (.Subscript e (.Slice none none (some (.UnaryOp .USub (.Constant (.int 1) k p1) p2)) p3) pos) (tRevS te) := by
  refine ⟨fun pins s σ H Q I h => ?_⟩
  refine Subscript_ (thn (he.run pins s σ H _ I h) fun v s1 ⟨x, H1, I1, r1, q1⟩ => ?_)
  obtain ⟨z, ex, hz, q⟩ := q1
  subst ex
  obtain ⟨t, rfl⟩ := r1
  have hst : PO X (some (.UnaryOp .USub (.Constant (.int 1) k p1) p2)) (tPart (tUn (rU fun i => .int (-i)) (tC (.int 1)))) := po_some (pe_un un_neg pe_int)
  refine wpAny_Slice (thn (po_none.run pins s1 σ H1 (fun o H2 => o = none ∧ H2 = H1) I1 ⟨rfl, rfl⟩) fun vl s2 ⟨l, H2, I2, pl, el, e2⟩ => ?_)
  subst el e2
  refine thn (po_none.run pins s2 σ H2 (fun o H3 => o = none ∧ H3 = H2) I2 ⟨rfl, rfl⟩) fun vu s3 ⟨u, H3, I3, pu, eu, e3⟩ => ?_
  subst eu e3
  refine thn (hst.run pins s3 σ H3 (fun o H4 => o = some (-1) ∧ H4 = H3) I3 ⟨1, rfl, -1, rfl, rfl, rfl⟩) fun vs s4 ⟨o, H4, I4, ps, eo, e4⟩ => ?_
  subst eo e4
  have I5 : Inv X pins σ H4 { s4 with heap := s4.heap.push { cls := .type "slice", data := .fields #[vl, vu, vs] } } := I4.kept (t' := s4.toks) fun b ob q => Heap.get?_push_of_some _ q
  obtain ⟨l, rfl, e1⟩ := IsPart.raw pl
  obtain ⟨u, rfl, e2⟩ := IsPart.raw pu
  obtain ⟨w, rfl, e3⟩ := IsPart.raw ps
  show wpAny (model X.prog X.w) X.A (subscriptTail e (.Slice none none (some (.UnaryOp .USub (.Constant (.int 1) k p1) p2)) p3) (.str z t) (.ref s4.heap.objs.size)) (EP X pins σ Q) X.xe { s4 with heap := s4.heap.push { cls := .type "slice", data := .fields #[partValue l, partValue u, partValue w] } }
  refine tail_any (ops := [.str z t, .ref s4.heap.objs.size]) (typeIs_str _ _ _) (PySem.F.slot_str_getitem.lookup) ?_ (by with_unfolding_all rfl)
  refine wpAny_getItem_str_slice (l := l) (u := u) (st := w) ⟨_, Heap.get?_push_size _ rfl, rfl, rfl⟩ ?_ ?_
  · rw [e3]; rfl
  · have hl : (revS z).length ≤ sizeLine := by rw [revS_len]; exact hz
    unfold sliceMade slicePicked
    rw [e1, e2, e3]
    rw [if_neg (by simp)]
    exact ⟨hl, .str _, H4, I5.tok _, ⟨_, rfl⟩, q⟩
def aRevS : D → AH → (D → AH → Prop) → Prop := fun x C P => match x with | .str z => z.length ≤ sizeLine ∧ P (.str (revS z)) C | _ => False
theorem ae_revS {pos : Pos} {e : Expr} {te : TE} {a : AE'} {k : Nat} {p1 p2 p3 : Pos} (he : AE X e te a) : AE X (.Subscript e (.Slice none none (some (.UnaryOp .USub (.Constant (.int 1) k p1) p2)) p3) pos) (tRevS te) (aUn aRevS a) :=
  ⟨pe_revS he.pe, by
  intro σ s F C R H Q P hs hS h0 k
  refine he.sim σ s F C R H _ _ hs hS h0 fun x v F1 C1 H1 e1 S1 r1 h1 => ?_
  unfold aRevS at h1
  split at h1
  · cases r1
    exact ⟨_, rfl, h1.1, k _ _ F1 C1 H1 e1 S1 (.str _) h1.2⟩
  · exact h1.elim⟩
end
end AL
namespace HT
open PySem PySem.Spec PyProof.Rows L2
section
variable {prog : Program} {w : World} {A : Around} {E : Value → Shared → Prop} {s : Shared}
theorem sliceApplied_rev {sl : Addr} {vl vu vs : Value} {n : Nat} {Q : Int × Int × Nat → Shared → Prop} (hs : s.heap.IsSliceOf sl vl vu vs) (pl : IsPart vl none) (pu : IsPart vu none) (ps : IsPart vs (some (-1)))
    (h : Q ((n : Int) - 1, -1, n) s) : wpAny (model prog w) A (Builtin.Slice.sliceApplied (.ref sl) (pure (n : Int))) Q E s := by
  obtain ⟨os, hos, hcs, hds⟩ := id hs
  unfold Builtin.Slice.sliceApplied Builtin.Slice.sliceFields
  refine wpAny_bind (wpAny_bind (wpAny_field hos hds (x := vl) rfl (wpAny_bind (wpAny_field hos hds (x := vu) rfl (wpAny_bind (wpAny_field hos hds (x := vs) rfl (wpAny_pure ?_)))))))
  refine wpAny_bind (slicePart_ ps ?_)
  show wpAny _ _ (if ((-1 : Int) == 0) = true then _ else _) _ _ s
  rw [if_neg (by decide)]
  refine wpAny_bind (slicePart_ pl (wpAny_bind (slicePart_ pu (wpAny_bind (wpAny_pure ?_)))))
  show wpAny _ _ (match Builtin.Slice.sliceAdjust none none (-1) (n : Int) with | (lo, hi) => pure (lo, (-1 : Int), Builtin.Slice.slicePlaces lo hi (-1))) _ _ s
  have e : Builtin.Slice.sliceAdjust none none (-1) (n : Int) = ((n : Int) - 1, -1) := by
    unfold Builtin.Slice.sliceAdjust
    simp
  have e2 : Builtin.Slice.slicePlaces ((n : Int) - 1) (-1) (-1) = n := by
    unfold Builtin.Slice.slicePlaces
    simp
    omega
  rw [e]
  show wpAny _ _ (pure ((n : Int) - 1, (-1 : Int), Builtin.Slice.slicePlaces ((n : Int) - 1) (-1) (-1))) _ _ s
  rw [e2]
  exact wpAny_pure h
theorem fmap_some {α β : Type} {f : α → Option β} {g : α → β} : ∀ {l : List α}, (∀ m ∈ l, f m = some (g m)) → l.filterMap f = l.map g
  | [], _ => rfl
  | m :: l, h => by
    rw [List.filterMap_cons, h m (List.mem_cons_self ..), List.map_cons, fmap_some fun k hk => h k (List.mem_cons_of_mem _ hk)]
theorem pick_rev (xs : Array Value) : ((List.range xs.size).filterMap fun (m : Nat) => xs[(((xs.size : Nat) : Int) - 1 + (m : Int) * (-1)).toNat]?).toArray = xs.toList.reverse.toArray := by
  congr 1
  have e : ∀ m ∈ List.range xs.size, xs[(((xs.size : Nat) : Int) - 1 + (m : Int) * (-1)).toNat]? = some (xs.toList.reverse.getD m .none) := by
    intro m hm
    have hm' : m < xs.size := List.mem_range.mp hm
    have e1 : (((xs.size : Nat) : Int) - 1 + (m : Int) * (-1)).toNat = xs.size - 1 - m := by omega
    have h2 : xs.size - 1 - m < xs.size := by omega
    have h3 : m < xs.toList.reverse.length := by rw [List.length_reverse, Array.length_toList]; exact hm'
    rw [e1, Array.getElem?_eq_getElem h2, List.getD, List.getElem?_eq_getElem h3]
    simp
  rw [fmap_some e]
  refine List.ext_getElem (by simp) fun i h1 h2 => ?_
  simp [List.getD, List.getElem?_eq_getElem h2]
theorem getItem_tuple_rev {t sl : Addr} {items : Array Value} {vl vu vs : Value} {Q : Value → Shared → Prop} (ht : IsTup s.heap t items) (hs : s.heap.IsSliceOf sl vl vu vs) (pl : IsPart vl none) (pu : IsPart vu none) (ps : IsPart vs (some (-1)))
    (h : Q (.ref s.heap.objs.size) { s with heap := s.heap.push { cls := .type "tuple", data := .seq items.toList.reverse.toArray } }) (hsz : items.size ≤ sizeLine) : wpAny (model prog w) A (getItem (.ref t) (.ref sl)) Q E s := by
  have htake : sizeOk (.seq items.toList.reverse.toArray) := by
    show items.toList.reverse.toArray.size ≤ sizeLine
    rw [List.size_toArray, List.length_reverse, Array.length_toList]
    exact hsz
  obtain ⟨os, hos, hcs, hds⟩ := id hs
  have hTs : s.TypeIs (.ref sl) "slice" := ⟨os, hos, hcs⟩
  unfold getItem
  try with_reducible refine wpAny_holding ?_
  first | refine wpAny_bind (wpAny_pure ?_) | skip
  refine wpAny_bind (wpAny_sequenceKey ht.typeIs (by decide) ?_)
  refine wpAny_bind (wpAny_callSpecial?_slot (name := Str.ofString "__getitem__") ht.typeIs PyProof.Rows.slot_tuple_getitem
    (wpAny_call_entry PyProof.Rows.slot_tuple_getitem ht.typeIs entry_tuple_getitem ?_ (args_tuple_getitem _ _)))
  show wpAny _ _ (Builtin.Tuple.tupleItemsOf (.ref t) >>= _) _ _ s
  refine wpAny_bind (tupleItemsOf_ ht ?_)
  refine wpAny_bind (wpAny_typeOf hTs ?_)
  rw [if_pos (by decide)]
  refine wpAny_bind (sliceApplied_rev hs pl pu ps ?_)
  have hno : ¬ ((((items.size : Nat) : Int) - 1 == 0 && (-1 : Int) == 1 && items.size == items.size) = true) := by
    intro q
    rw [Bool.and_eq_true, Bool.and_eq_true] at q
    exact absurd q.1.2 (by decide)
  show wpAny _ _ (if (((items.size : Nat) : Int) - 1 == 0 && (-1 : Int) == 1 && items.size == items.size) = true then _ else _) _ _ s
  rw [if_neg hno, pick_rev]
  first
    | exact wpAny_bind (m := Builtin.Tuple.tupleExact _) (wpAny_newObj_type (wpAny_pure ⟨_, rfl, wpAny_pure h⟩) htake)
    | exact wpAny_bind (m := Builtin.Tuple.tupleExact _) (wpAny_newObj_type (wpAny_bind (wpAny_pure (wpAny_pure ⟨_, rfl, wpAny_pure h⟩))) htake)
    | exact wpAny_bind (wpAny_bind (m := Builtin.Tuple.tupleExact _) (wpAny_newObj_type (wpAny_pure (wpAny_pure ⟨_, rfl, wpAny_pure h⟩)) htake))
    | exact wpAny_bind (wpAny_bind (m := Builtin.Tuple.tupleExact _) (wpAny_newObj_type (wpAny_pure ⟨_, rfl, wpAny_pure h⟩) htake))
end
end HT
namespace AL
open PySem PySem.Spec PyProof.Rows L2
section
variable {X : Cx} {K : PySem.W.Frag}
/-- t[::-1] of a tuple -/
def tRevT (K : PySem.W.Frag) (te : TE) : TE := fun σ H Q => te σ H fun x H1 => ∃ a xs, x = .ref a ∧ SqT K H1 a xs ∧ ∀ p, H1 p = none → Q (.ref p) (upd H1 p (.tup xs.reverse))
theorem pe_revT {e : Expr} {te : TE} {k : Nat} {p1 p2 p3 pos : Pos} (he : PE X e te) : PE X (.Subscript e (.Slice none none (some (.UnaryOp .USub (.Constant (.int 1) k p1) p2)) p3) pos) (tRevT X.K te) := by
  refine ⟨fun pins s σ H Q I h => ?_⟩
  refine Subscript_ (thn (he.run pins s σ H _ I h) fun v s1 ⟨x, H1, I1, r1, q1⟩ => ?_)
  obtain ⟨a, xs, ex, hx, q⟩ := q1
  subst ex
  cases r1
  have hst : PO X (some (.UnaryOp .USub (.Constant (.int 1) k p1) p2)) (tPart (tUn (rU fun i => .int (-i)) (tC (.int 1)))) := po_some (pe_un un_neg pe_int)
  refine wpAny_Slice (thn (po_none.run pins s1 σ H1 (fun o H2 => o = none ∧ H2 = H1) I1 ⟨rfl, rfl⟩) fun vl s2 ⟨l, H2, I2, pl, el, e2⟩ => ?_)
  subst el e2
  refine thn (po_none.run pins s2 σ H2 (fun o H3 => o = none ∧ H3 = H2) I2 ⟨rfl, rfl⟩) fun vu s3 ⟨u, H3, I3, pu, eu, e3⟩ => ?_
  subst eu e3
  refine thn (hst.run pins s3 σ H3 (fun o H4 => o = some (-1) ∧ H4 = H3) I3 ⟨1, rfl, -1, rfl, rfl, rfl⟩) fun vs s4 ⟨o, H4, I4, ps, eo, e4⟩ => ?_
  subst eo e4
  have I5 : Inv X pins σ H4 { s4 with heap := s4.heap.push { cls := .type "slice", data := .fields #[vl, vu, vs] } } := I4.kept (t' := s4.toks) fun b ob q => Heap.get?_push_of_some _ q
  obtain ⟨its, r, ht, hz⟩ := I5.tuple hx
  have hlen := r.length
  show wpAny (model X.prog X.w) X.A (subscriptTail e (.Slice none none (some (.UnaryOp .USub (.Constant (.int 1) k p1) p2)) p3) (.ref a) (.ref s4.heap.objs.size)) (EP X pins σ Q) X.xe { s4 with heap := s4.heap.push { cls := .type "slice", data := .fields #[vl, vu, vs] } }
  refine tail_any (ops := [.ref a, .ref s4.heap.objs.size]) ht.typeIs (PyProof.Rows.slot_tuple_getitem.lookup) ?_ (by with_unfolding_all rfl)
  refine HT.getItem_tuple_rev ht (Heap.IsSliceOf.new _ vl vu vs) pl pu ps ?_ (by rw [List.size_toArray]; omega)
  refine ⟨.ref _, _, I5.laid (t' := s4.toks) (o := .tup xs.reverse) (fun b ob q => Heap.get?_push_of_some _ q) (Nat.le_refl _) ?_, rfl, q _ (I5.hok.fresh (Nat.le_refl _))⟩
  exact ⟨by rw [List.length_reverse]; exact hz, its.reverse, r.reverse, IsTup.new _ _⟩
def aRevT : D → AH → (D → AH → Prop) → Prop := fun x C P => match asT x with | some ds => P (.tup ds.reverse) C | none => False
theorem ae_revT {pos : Pos} {e : Expr} {te : TE} {a : AE'} {k : Nat} {p1 p2 p3 : Pos} (he : AE X e te a) (hK : X.K = K := by rfl) : AE X (.Subscript e (.Slice none none (some (.UnaryOp .USub (.Constant (.int 1) k p1) p2)) p3) pos) (tRevT K te) (aUn aRevT a) := by
  subst hK
  exact ⟨pe_revT he.pe, by
  intro σ s F C R H Q P hs hS h0 k
  refine he.sim σ s F C R H _ _ hs hS h0 fun x v F1 C1 H1 e1 S1 r1 h1 => ?_
  unfold aRevT at h1
  split at h1
  · rename_i ds q
    obtain ⟨a, xs, e2, h2, h3⟩ := asT_ok S1 r1 q
    refine ⟨a, xs, e2, SqT.of h2, fun p hp => ?_⟩
    have e := Ex.new (o := .tup xs.reverse) (S1.freeF hp)
    exact k _ _ _ C1 _ (e1.trans e) (S1.newF hp _) (.tup upd_same (h3.reverse.mono e)) h1
  · exact h1.elim⟩
/-! one step each -/
variable {C : AH} {P : D → AH → Prop}
theorem g_revS {z : Str} (h1 : z.length ≤ sizeLine) (h : P (.str (revS z)) C) : aRevS (.str z) C P := ⟨h1, h⟩
theorem g_revT {ds : List D} (h : P (.tup ds.reverse) C) : aRevT (.tup ds) C P := h
theorem g_ltL {xs ys : List D} {ns ms : List Int} (h1 : intsD xs = some ns) (h2 : intsD ys = some ms) (h : P (.bl (PySem.W.listLt ns ms)) C) : aLtL (.lst xs) (.lst ys) C P := by
  show (match (some xs).bind intsD, (some ys).bind intsD with | some ns, some ms => P (.bl (PySem.W.listLt ns ms)) C | _, _ => False)
  rw [Option.bind_some, Option.bind_some, h1, h2]
  exact h
/-! a.index(b) of texts -/
def aSindex : D → ASp := fun x ds C P => match x, ds with
  | .str a, [.str b] => (match Builtin.Str.occurrences a b 0 a.length 1 with | i :: _ => P (.int (i : Nat)) C | [] => False)
  | _, _ => False
theorem am_sindex : AMt X "str.index" (fun x xs H Q => ∃ a b i rest, x = .str a ∧ xs = [.str b] ∧ Builtin.Str.occurrences a b 0 a.length 1 = i :: rest ∧ Q (.int (i : Nat)) H) aSindex := ⟨fun pins s σ H x xs v us Q I r1 r2 h => mt_sindex pins s σ H x xs v us Q I r1 r2 h, by
  intro v d vs ds F C R H Q P hS r1 r2 h k
  unfold aSindex at h
  split at h
  · cases r1
    cases r2 with
    | cons r2 r3 =>
      cases r3
      cases r2
      split at h
      · rename_i i rest e
        exact ⟨_, _, i, rest, rfl, rfl, e, k _ _ F C H (Ex.refl F) hS (.int _) h⟩
      · exact h.elim
  · exact h.elim⟩
end
end AL

namespace AL
open PySem PySem.Spec PyProof.Rows L2
section
variable {X : Cx} {K : PySem.W.Frag}
/-! ### xs.reverse(), xs.clear() -/
def aReverse : D → ASp := fun x ds C P => match x, ds with
  | .ce p, [] => (match C p with | some (.lst us) => P .non (put C p (.lst us.reverse)) | _ => False)
  | _, _ => False
def aClear : D → ASp := fun x ds C P => match x, ds with
  | .ce p, [] => (match C p with | some (.lst _) => P .non (put C p (.lst [])) | _ => False)
  | _, _ => False
theorem am_reverse : AMt X "list.reverse" rReverse aReverse := ⟨fun pins s σ H x xs v us Q I r1 r2 h => mt_reverse pins s σ H x xs v us Q I r1 r2 h, by
  intro v d vs ds F C R H Q P hS r1 r2 h k
  unfold aReverse at h
  split at h
  · cases r1
    cases r2
    split at h
    · rename_i us e
      obtain ⟨xs, h1, h2⟩ := cellL hS e
      exact ⟨_, xs, rfl, rfl, h1, k _ _ F _ _ (Ex.refl F) (hS.mutC e (.lst h2.reverse)) .non h⟩
    · exact h.elim
  · exact h.elim⟩
theorem am_clear : AMt X "list.clear" rClear aClear := ⟨fun pins s σ H x xs v us Q I r1 r2 h => mt_clear pins s σ H x xs v us Q I r1 r2 h, by
  intro v d vs ds F C R H Q P hS r1 r2 h k
  unfold aClear at h
  split at h
  · cases r1
    cases r2
    split at h
    · rename_i us e
      obtain ⟨xs, h1, h2⟩ := cellL hS e
      exact ⟨_, xs, rfl, rfl, h1, k _ _ F _ _ (Ex.refl F) (hS.mutC e (.lst .nil)) .non h⟩
    · exact h.elim
  · exact h.elim⟩
theorem g_reverse {C : AH} {P : D → AH → Prop} {p : Addr} {us : List D} (h1 : C p = some (.lst us)) (h : P .non (put C p (.lst us.reverse))) : aReverse (.ce p) [] C P := by
  show (match C p with | some (.lst us) => P .non (put C p (.lst us.reverse)) | _ => False)
  rw [h1]; exact h
theorem g_clear {C : AH} {P : D → AH → Prop} {p : Addr} {us : List D} (h1 : C p = some (.lst us)) (h : P .non (put C p (.lst []))) : aClear (.ce p) [] C P := by
  show (match C p with | some (.lst us) => P .non (put C p (.lst [])) | _ => False)
  rw [h1]; exact h
end
end AL

namespace AL
open PySem PySem.Spec PyProof.Rows L2
section
variable {X : Cx} {pos : Pos} {K : PySem.W.Frag}
/-! ### isinstance(e, (T1, T2)) -/
def aIsi2 (T U : String) (a : AE') : AE' := fun s C P => a s C fun x C1 => match kindOf C1 x with | some t => P (.bl (isT T t || isT U t)) C1 | none => False
theorem ae_isi2 {e : Expr} {te : TE} {a : AE'} {T U : Str} {Tn Un : String} {p p2 p3 p4 : Pos} {k4 : Nat} (h : AE X e te a) (hm : X.mg "isinstance" = none) (hmT : X.mg T = none) (hmU : X.mg U = none) (hv : bootBuiltins T = some (.type Tn)) (hvU : bootBuiltins U = some (.type Un)) (hT : Tn ∈ ["bool", "int", "str", "list", "tuple", "dict"] := by decide) (hU : Un ∈ ["bool", "int", "str", "list", "tuple", "dict"] := by decide)
    (hg : Gl X "isinstance" := by rfl) (hgT : Gl X T := by rfl) (hgU : Gl X U := by rfl) (hb : bootBuiltins "isinstance" = some (.builtin "isinstance") := by decide +kernel) (hnT : T ≠ "__name__" := by decide) (hdT : (T == ("__debug__" : Str)) = false := by decide) (hnU : U ≠ "__name__" := by decide) (hdU : (U == ("__debug__" : Str)) = false := by decide)
    (he : starEach [e, .Tuple [.Name T p2, .Name U p3] k4 p4] X.env = (false, eval e X.env) :: starEach [.Tuple [.Name T p2, .Name U p3] k4 p4] X.env := by rfl) (hpl : (backTo pos (starEach [.Tuple [.Name T p2, .Name U p3] k4 p4] X.env)).any (·.1) = false := by rfl) (h2 : starEach [.Tuple [.Name T p2, .Name U p3] k4 p4] X.env = (false, eval (.Tuple [.Name T p2, .Name U p3] k4 p4) X.env) :: starEach [] X.env := by rfl)
    (h3 : starEach [.Name T p2, .Name U p3] X.env = (false, eval (.Name T p2) X.env) :: starEach [.Name U p3] X.env := by rfl) (h4 : starEach [.Name U p3] X.env = (false, eval (.Name U p3) X.env) :: starEach [] X.env := by rfl) (hK : X.K = K := by rfl) :
    AE X (.Call (.Name "isinstance" p) [e, .Tuple [.Name T p2, .Name U p3] k4 p4] [] pos) (tCB (rIsiT K) (tCons te (tCons (tTup (tCons (tC (.ty Tn)) (tCons (tC (.ty Un)) tNil))) tNil))) (aIsi2 Tn Un a) := by
  subst hK
  exact ⟨pe_callB call_isiT hg hm hb (pa_cons h.pe (pa_cons (pe_tup (pa_cons (pe_bltn hgT hmT hv rfl hnT hdT) (pa_cons (pe_bltn hgU hmU hvU rfl hnU hdU) pa_nil h4) h3)) pa_nil h2) he) (by decide) (by decide) he hpl, by
    intro σ s F C R H Q P hs hS h0 k
    refine h.sim σ s F C R H _ _ hs hS h0 fun x v F1 C1 H1 e1 S1 r1 h1 => ?_
    split at h1
    · rename_i t q
      refine ⟨by show 2 ≤ sizeLine; rw [sizeLine_eq]; omega, fun tp hp => ?_⟩
      have eN := Ex.new (o := .tup [.ty Tn, .ty Un]) (S1.freeF hp)
      have S2 := S1.newF hp (.tup [.ty Tn, .ty Un])
      refine ⟨v, tp, [.ty Tn, .ty Un], .type t, [.type Tn, .type Un], isT Tn t || isT Un t, rfl, upd_same, .cons (.ty Tn) (.cons (.ty Un) .nil), kindOf_ok S2 (r1.mono eN) q, ?_, k _ _ _ _ _ (e1.trans eN) S2 (.bl _) h1⟩
      have k1 := kit_ty (K := X.K) (isT_ok t (kindOf_mem q) Tn hT)
      have k2 := kit_ty (K := X.K) (isT_ok t (kindOf_mem q) Un hU)
      refine kitAny_cons k1 (fun e3 => ?_) (fun e3 => ?_)
      · rw [e3]
        refine kitAny_cons k2 (fun e4 => ?_) (fun e4 => ?_)
        · rw [e4]; rfl
        · rw [e4]; rfl
      · rw [e3]; rfl
    · exact h1.elim⟩
end
section
variable {s : ASt} {C : AH} {P : D → AH → Prop} {e : AE'}
def kIsi2 (T U : String) (P : D → AH → Prop) : D → AH → Prop := fun x C1 => match kindOf C1 x with | some t => P (.bl (isT T t || isT U t)) C1 | none => False
theorem g_isi2 {T U : String} (h : e s C (kIsi2 T U P)) : aIsi2 T U e s C P := h
theorem g_kIsi2 {T U t : String} {x : D} (h1 : kindOf C x = some t) (h : P (.bl (isT T t || isT U t)) C) : kIsi2 T U P x C := by
  unfold kIsi2
  rw [h1]
  exact h
/-- zip of anything that reads as lists, nothing changing -/
theorem g_kIZg {PI : List D → (AH → Prop) → AH → Prop} {x y : D} {us ws : List D} (h1 : asLr C x = some us) (h2 : asLr C y = some ws) (h : PI (zipD us ws) (fun C' => asLr C' x = some us ∧ asLr C' y = some ws) C) : kIZ PI [x, y] C := by
  unfold kIZ
  simp only [h1, h2]
  exact h
end
end AL
/-! ### what stays -/
namespace AL
open PySem
def Keep (C C' : AH) : Prop := ∀ r c, C r = some c → C' r = some c
theorem Keep.refl (C : AH) : Keep C C := fun _ _ h => h
theorem Keep.trans {C C1 C2 : AH} (a : Keep C C1) (b : Keep C1 C2) : Keep C C2 := fun r c h => b r c (a r c h)
theorem Keep.put {C C' : AH} {q : Addr} {c : Cell} (h : Keep C C') (hq : C q = none) : Keep C (AL.put C' q c) := fun r d e => by rw [put_ne (ne_cell e hq)]; exact h r d e
theorem Keep.del {C C' : AH} {q : Addr} (h : Keep C C') (hq : C q = none) : Keep C (AL.del C' q) := fun r d e => by
  unfold AL.del
  rw [if_neg (ne_cell e hq)]
  exact h r d e
theorem Keep.none {C C' : AH} {q : Addr} (h : Keep C C') (hq : C' q = Option.none) : C q = Option.none := by
  cases e : C q with
  | none => rfl
  | some c => rw [h q c e] at hq; cases hq
/-- all but p -/
def Oth (p : Addr) (C C' : AH) : Prop := ∀ r c, r ≠ p → C r = some c → C' r = some c
theorem Oth.refl (p : Addr) (C : AH) : Oth p C C := fun _ _ _ h => h
theorem Oth.trans {p : Addr} {C C1 C2 : AH} (a : Oth p C C1) (b : Oth p C1 C2) : Oth p C C2 := fun r c n h => b r c n (a r c n h)
theorem Oth.of {p : Addr} {C C' : AH} (a : Keep C C') : Oth p C C' := fun r c _ h => a r c h
theorem Oth.pen {p : Addr} {C C' : AH} {c : Cell} (h : Oth p C C') : Oth p C (AL.put C' p c) := fun r d n e => by rw [put_ne n]; exact h r d n e
theorem Oth.put {p q : Addr} {C C' : AH} {c : Cell} (h : Oth p C C') (hq : C q = none) : Oth p C (AL.put C' q c) := fun r d n e => by rw [put_ne (ne_cell e hq)]; exact h r d n e
theorem Oth.del {p q : Addr} {C C' : AH} (h : Oth p C C') (hq : C q = none) : Oth p C (AL.del C' q) := fun r d n e => by
  unfold AL.del
  rw [if_neg (ne_cell e hq)]
  exact h r d n e
theorem Oth.none {p q : Addr} {C C' : AH} (h : Oth p C C') (hn : q ≠ p) (hq : C' q = Option.none) : C q = Option.none := by
  cases e : C q with
  | none => rfl
  | some c => rw [h q c hn e] at hq; cases hq
theorem atI_last {xs : List D} {i : Nat} {x : D} (hl : xs.length = i + 1) (h : xs[i]? = some x) : L2.atI xs (-1) = some x := by
  unfold L2.atI L2.ixN
  rw [hl, if_neg (by omega), if_pos (by omega)]
  show xs[(-1 + ((i + 1 : Nat) : Int)).toNat]? = _
  rw [show (-1 + ((i + 1 : Nat) : Int)).toNat = i by omega]
  exact h
theorem zipD_inv {xs ys : List D} {i : Nat} {d : D} (h : (zipD xs ys)[i]? = some d) : ∃ x y, xs[i]? = some x ∧ ys[i]? = some y ∧ d = .tup [x, y] := by
  unfold zipD at h
  rw [List.getElem?_map] at h
  cases e : (xs.zip ys)[i]? with
  | none => rw [e] at h; cases h
  | some p =>
    rw [e] at h
    cases h
    obtain ⟨h1, h2⟩ := List.getElem?_zip_eq_some.mp (show (xs.zip ys)[i]? = some (p.1, p.2) from e)
    exact ⟨p.1, p.2, h1, h2, rfl⟩
theorem lenG {C : AH} {P : D → AH → Prop} {g : D} {gs : List D} (h : asLr C g = some gs) (k : P (.int gs.length) C) : aLen [g] C P := by
  cases g with
  | scr ns =>
    cases h
    rw [List.length_map] at k
    exact g_lenR k
  | lst xs => cases h; exact g_lenL k
  | ce p =>
    have h : (match C p with | some (.lst us) => some us | _ => Option.none) = some gs := h
    cases e : C p with
    | none => rw [e] at h; cases h
    | some c =>
      rw [e] at h
      cases c with
      | lst us => cases h; exact g_lenC e k
      | _ => cases h
  | _ => cases h
end AL

local macro_rules | `(tactic| walk_at "ne") => `(tactic| first | with_reducible assumption | ((with_reducible refine Ne.symm ?_); (with_reducible assumption)))
local macro_rules | `(tactic| walk_at "look") => `(tactic| first
  | with_reducible assumption
  | with_reducible exact AL.put_same
  | ((with_reducible apply AL.put_other); (walk_at "ne"); (walk_at "look"))
  | ((with_reducible apply AL.del_other); (walk_at "ne"); (walk_at "look")))
local macro_rules | `(tactic| walk_at "mul") => `(tactic| first | exact Or.inr ⟨by omega, by omega⟩ | exact Or.inl ⟨by omega, by omega⟩)
local macro_rules | `(tactic| walk_at "go1") => `(tactic| first
  | with_reducible apply AL.g_seq
  | with_reducible apply AL.g_asg
  | with_reducible apply AL.g_op
  | with_reducible apply AL.g_un
  | ((with_reducible apply AL.g_var); exact rfl)
  | with_reducible apply AL.g_c
  | ((with_reducible apply AL.g_gname'); (simp only [AL.wipeA, List.foldl_cons, List.foldl_nil, List.set_cons_zero, List.set_cons_succ]; exact rfl))
  | with_reducible apply AL.g_call
  | with_reducible apply AL.g_cons
  | with_reducible apply AL.g_nil
  | with_reducible apply AL.g_addI
  | with_reducible apply AL.g_sub
  | ((with_reducible apply AL.g_mul); (walk_at "mul"))
  | ((with_reducible apply AL.g_mod); (omega))
  | ((with_reducible apply AL.g_div); (exact ⟨by omega, by omega⟩))
  | ((with_reducible apply AL.g_pow); (exact ⟨by decide, by decide, by decide⟩))
  | with_reducible apply AL.g_lt
  | with_reducible apply AL.g_le
  | with_reducible apply AL.g_gt
  | with_reducible apply AL.g_ge
  | with_reducible apply AL.g_eqII
  | with_reducible apply AL.g_neII
  | with_reducible apply AL.g_eqBB
  | with_reducible apply AL.g_neBB
  | with_reducible apply AL.g_eqTT
  | with_reducible apply AL.g_neTT
  | with_reducible apply AL.g_is
  | with_reducible apply AL.g_isnot
  | with_reducible apply AL.g_B
  | with_reducible apply AL.g_kB
  | with_reducible apply AL.g_tru
  | with_reducible apply AL.g_kTruB
  | with_reducible apply AL.g_and
  | with_reducible apply AL.g_or
  | with_reducible apply AL.g_not
  | with_reducible apply AL.g_andV
  | with_reducible apply AL.g_orV
  | with_reducible apply AL.g_notV
  | with_reducible apply AL.g_kNot
  | with_reducible apply AL.g_if
  | with_reducible apply AL.g_ixL0
  | with_reducible apply AL.g_ixL1
  | with_reducible apply AL.g_ixL2
  | with_reducible apply AL.g_ixT0
  | with_reducible apply AL.g_ixT1
  | with_reducible apply AL.g_ixT2
  | with_reducible apply AL.g_ixT3
  | ((with_reducible apply AL.g_ixC); (walk_at "look"))
  | with_reducible apply AL.g_lenL
  | with_reducible apply AL.g_lenT
  | with_reducible apply AL.g_lenR
  | ((with_reducible apply AL.g_lenC); (walk_at "look"))
  | with_reducible apply AL.g_abs
  | with_reducible apply AL.g_max2
  | with_reducible apply AL.g_min2
  | with_reducible apply AL.g_intI
  | with_reducible apply AL.g_intB
  | with_reducible apply AL.g_listL
  | with_reducible apply AL.g_listT
  | with_reducible apply AL.g_tupleL
  | with_reducible apply AL.g_tupleT
  | with_reducible apply AL.g_rev
  | with_reducible apply AL.g_ret
  | with_reducible apply AL.g_drop
  | with_reducible apply AL.g_next
  | with_reducible apply AL.g_retN
  | with_reducible apply AL.g_tup
  | with_reducible apply AL.g_lst
  | with_reducible apply AL.g_lstM
  | with_reducible apply AL.g_isi
  | with_reducible apply AL.g_kIsiI
  | with_reducible apply AL.g_kIsiB
  | with_reducible apply AL.g_kIsiN
  | with_reducible apply AL.g_kIsiS
  | with_reducible apply AL.g_kIsiL
  | with_reducible apply AL.g_kIsiT
  | with_reducible apply AL.g_kIsiK
  | with_reducible apply AL.g_meth
  | with_reducible apply AL.g_meth0
  | ((with_reducible apply AL.g_gsetV); exact rfl)
  | ((with_reducible apply AL.g_kSet); (walk_at "look"); exact rfl)
  | ((with_reducible apply AL.g_frzL); exact rfl; (walk_at "look"))
  | ((with_reducible apply AL.g_gtup); exact rfl)
  | with_reducible apply AL.g_gcons
  | with_reducible apply AL.g_gnil
  | with_reducible apply AL.g_yes
  | with_reducible apply AL.g_sl
  | with_reducible apply AL.g_noPart
  | with_reducible apply AL.g_part
  | with_reducible apply AL.g_kPart
  | ((with_reducible apply AL.g_pen0); exact rfl; (walk_at "look"))
  | ((with_reducible apply AL.g_pen1); exact rfl; (walk_at "look"))
  | ((with_reducible apply AL.g_pen2); exact rfl; (walk_at "look"))
  | with_reducible apply AL.g_putK
  | ((with_reducible apply AL.g_kPut1); exact rfl; (walk_at "look"))
  | ((with_reducible apply AL.g_kPut2); exact rfl; (walk_at "look"))
  | with_reducible apply AL.g_par
  | ((with_reducible apply AL.g_kPar); (simp only [List.set_cons_zero, List.set_cons_succ]; exact rfl))
  | with_reducible apply AL.g_neg
  | with_reducible apply AL.g_iteT
  | with_reducible apply AL.g_iteF
  | with_reducible apply AL.g_iteNT
  | with_reducible apply AL.g_iteNF
  | with_reducible apply AL.g_for
  | with_reducible apply AL.g_il
  | with_reducible apply AL.g_it
  | with_reducible apply AL.g_is'
  | with_reducible apply AL.g_ir1
  | with_reducible apply AL.g_ir2
  | with_reducible apply AL.g_ie
  | with_reducible apply AL.g_iz
  | with_reducible apply AL.g_kILl
  | with_reducible apply AL.g_kILr
  | with_reducible apply AL.g_kIT
  | with_reducible apply AL.g_kIS
  | with_reducible apply AL.g_kIE
  | with_reducible apply AL.g_kIZ
  | ((with_reducible apply AL.g_kIR1); (omega); (omega))
  | ((with_reducible apply AL.g_kIR2); (omega))
  | with_reducible apply AL.g_lc
  | with_reducible apply AL.g_lcM
  | ((with_reducible apply AL.g_body'); (simp only [List.map_cons, List.map_nil, List.length_cons, List.length_nil, List.cons_append, List.nil_append, List.reduceReplicate, Nat.reduceAdd, Nat.reduceSub]; exact rfl))
  | ((with_reducible apply AL.g_sz); (simp only [List.length_cons, List.length_nil, PySem.sizeLine]; try omega))
  | ((with_reducible apply AL.g_ty); first | exact rfl | exact AL.isTy_ce (by walk_at "look") rfl))
local macro_rules | `(tactic| walk_at "go") => `(tactic| repeat walk_at "go1")

namespace A_k21
open PySem AL
/- first_list: slots 0:machine 1:one -/
def a_first_list : AS' :=
  aRet (aLcM (aIL (aOp aIx (aVar 0) (aC (.int 0)))) (aGName 1) (aYes) (aCall aInt (aCons (aVar 1) (aNil))) [1])
def s_first_list : ASp := aBody 2 a_first_list

/- list_behind: slots 0:machine 1:ahead 2:found 3:row 4:stand -/
def a_list_behind : AS' :=
  aSeq (aAsg (aLstM (aNil)) (aGName 2))
  (aSeq (aFor (aIL (aOp aIx (aVar 0) (aC (.int 1)))) (aGName 3)
  (aDrop (aMeth "list" aAppend (aVar 2) (aCons (aCall aSum (aCons (aLc (aIL (aVar 3)) (aGName 4) (aB (aOp aNotN (aVar 4) (aC .non))) (aOp aIx (aVar 1) (aVar 4)) [4]) (aNil))) (aNil)))))
  (aRet (aVar 2)))
def s_list_behind : ASp := aBody 5 a_list_behind

/- law_pen: slots 0:law_script 1:law_first -/
def a_law_pen : AS' :=
  aRet (aDisp [(.inr "script", aVar 0), (.inr "at", aVar 1), (.inr "left", aC (.int 0))])
def s_law_pen : ASp := aBody 2 a_law_pen

/- law_mixed: slots 0:law_cell 1:law_k 2:law_one 3:law_two -/
def a_law_mixed : AS' :=
  aSeq (aAsg (aOp aMod (aOp aMul (aOp aAdd (aOp aAdd (aOp aMod (aVar 0) (aC (.int 2147483629))) (aOp aMul (aC (.int 40503)) (aVar 1))) (aC (.int 24691))) (aC (.int 48271))) (aC (.int 2147483647))) (aGName 2))
  (aSeq (aAsg (aOp aMod (aOp aAdd (aOp aAdd (aOp aMul (aVar 2) (aVar 2)) (aOp aMul (aC (.int 69621)) (aVar 2))) (aVar 1)) (aC (.int 2147483629))) (aGName 3))
  (aRet (aOp aDiv (aOp aMod (aOp aAdd (aOp aAdd (aOp aMul (aVar 3) (aVar 3)) (aOp aMul (aC (.int 16807)) (aVar 3))) (aOp aMul (aC (.int 31)) (aVar 1))) (aC (.int 1073741789))) (aC (.int 64)))))
def s_law_mixed : ASp := aBody 4 a_law_mixed

/- law_table: slots 0:law_machine_here 1:law_most 2:law_lists 3:law_ahead 4:law_one 5:law_row 6:law_goal_here -/
def a_law_table : AS' :=
  aSeq (aAsg (aLstM (aCons (aLc (aIL (aOp aIx (aVar 0) (aC (.int 0)))) (aGName 4) (aYes) (aCall aInt (aCons (aVar 4) (aNil))) [4]) (aNil))) (aGName 2))
  (aSeq (aWhile (aB (aOp aLe (aCall aLen (aCons (aVar 2) (aNil))) (aVar 1)))
  (aSeq (aAsg (aOp aIx (aVar 2) (aUn aNeg (aC (.int 1)))) (aGName 3))
  (aDrop (aMeth "list" aAppend (aVar 2) (aCons (aLc (aIL (aOp aIx (aVar 0) (aC (.int 1)))) (aGName 5) (aYes) (aCall aSum (aCons (aLc (aIL (aVar 5)) (aGName 6) (aB (aOp aNotN (aVar 6) (aC .non))) (aOp aIx (aVar 3) (aVar 6)) [6]) (aNil))) [5]) (aNil))))))
  (aFrz 2 (aRet (aVar 2))))
def s_law_table : ASp := aBody 7 a_law_table

/- law_same: slots 0:law_got 1:law_due 2:law_one 3:law_other; calls itself -/
def a_law_same (s_law_same : ASp) : AS' :=
  aSeq (aIfS (aTru (aIsi2 "list" "tuple" (aVar 1)))
  (aSeq (aIfS (aOr (aNot (aTru (aIsi2 "list" "tuple" (aVar 0)))) (aB (aOp aNe (aIsi "list" (aVar 0)) (aIsi "list" (aVar 1)))))
  (aRet (aC (.bl false)))
  (aNext))
  (aRet (aAndV (aOp aEq (aCall aLen (aCons (aVar 0) (aNil))) (aCall aLen (aCons (aVar 1) (aNil)))) (aCall aAll (aCons (aLc (aIZ (aCons (aVar 0) (aCons (aVar 1) (aNil)))) (aGTup 2 (aGCons (aGName 2) (aGCons (aGName 3) (aGNil)))) (aYes) (aCall s_law_same (aCons (aVar 2) (aCons (aVar 3) (aNil)))) [2, 3]) (aNil))))))
  (aNext))
  (aSeq (aIfS (aOr (aB (aOp aIsN (aVar 1) (aC .non))) (aTru (aIsi2 "bool" "str" (aVar 1))))
  (aRet (aOp aEq (aNo) (aNo)))
  (aNext))
  (aRet (aAndV (aIsi "int" (aVar 0)) (aAndV (aNotV (aIsi "bool" (aVar 0))) (aOp aEq (aVar 0) (aVar 1))))))
def s_law_same : Nat → ASp
  | 0 => fun _ _ _ => False
  | n + 1 => aBody 4 (a_law_same (s_law_same n))

/- table: slots 0:machine 1:most 2:found -/
def a_table : AS' :=
  aSeq (aAsg (aLstM (aCons (aCall s_first_list (aCons (aVar 0) (aNil))) (aNil))) (aGName 2))
  (aSeq (aWhile (aB (aOp aLe (aCall aLen (aCons (aVar 2) (aNil))) (aVar 1)))
  (aDrop (aMeth "list" aAppend (aVar 2) (aCons (aCall s_list_behind (aCons (aVar 0) (aCons (aOp aIx (aVar 2) (aUn aNeg (aC (.int 1)))) (aNil)))) (aNil)))))
  (aFrz 2 (aRet (aVar 2))))
def s_table : ASp := aBody 3 a_table

/- law_take: slots 0:law_pen_here 1:law_most 2:law_k 3:law_script 4:law_cell 5:law_got -/
def a_law_take : AS' :=
  aSeq (aAsg (aGetK (aVar 0) (aC (.str "at"))) (aGName 2))
  (aSeq (aAsg (aGetK (aVar 0) (aC (.str "script"))) (aGName 3))
  (aSeq (aIfS (aB (aOp aEq (aGetK (aVar 0) (aC (.str "left"))) (aC (.int 0))))
  (aSeq (aPutK (aVar 0) (aC (.str "at")) (aOp aAdd (aVar 2) (aC (.int 1))))
  (aSeq (aAsg (aC (.int 0)) (aGName 4))
  (aSeq (aIfS (aB (aOp aGt (aCall aLen (aCons (aVar 3) (aNil))) (aC (.int 0))))
  (aAsg (aOp aIx (aVar 3) (aOp aMod (aVar 2) (aCall aLen (aCons (aVar 3) (aNil))))) (aGName 4))
  (aNext))
  (aSeq (aIfS (aOr (aB (aOp aGe (aVar 2) (aCall aLen (aCons (aVar 3) (aNil))))) (aB (aOp aLt (aCall aAbs (aCons (aVar 4) (aNil))) (aOp aPow (aC (.int 10)) (aC (.int 18))))))
  (aRet (aOp aMod (aCall s_law_mixed (aCons (aVar 4) (aCons (aVar 2) (aNil)))) (aVar 1)))
  (aNext))
  (aPutK (aVar 0) (aC (.str "left")) (aCall aAbs (aCons (aVar 4) (aNil))))))))
  (aNext))
  (aSeq (aAsg (aOp aMod (aGetK (aVar 0) (aC (.str "left"))) (aVar 1)) (aGName 5))
  (aSeq (aPutK (aVar 0) (aC (.str "left")) (aOp aDiv (aGetK (aVar 0) (aC (.str "left"))) (aVar 1)))
  (aRet (aVar 5))))))
def s_law_take : ASp := aBody 6 a_law_take

/- counts: slots 0:machine 1:most 2:some -/
def a_counts : AS' :=
  aRet (aLcM (aIL (aCall s_table (aCons (aVar 0) (aCons (aVar 1) (aNil))))) (aGName 2) (aYes) (aOp aIx (aVar 2) (aC (.int 0))) [2])
def s_counts : ASp := aBody 3 a_counts

/- law_signs: slots 0:law_pen_here -/
def a_law_signs : AS' :=
  aRet (aOp aIx (aLst (aCons (aC (.int 2)) (aCons (aC (.int 1)) (aCons (aC (.int 3)) (aCons (aC (.int 2)) (aCons (aC (.int 4)) (aCons (aC (.int 3)) (aCons (aC (.int 2)) (aCons (aOp aAdd (aC (.int 5)) (aCall s_law_take (aCons (aVar 0) (aCons (aC (.int 8)) (aNil))))) (aNil)))))))))) (aCall s_law_take (aCons (aVar 0) (aCons (aC (.int 8)) (aNil)))))
def s_law_signs : ASp := aBody 1 a_law_signs

/- law_goal: slots 0:law_pen_here 1:law_stand 2:law_stands 3:law_way 4:law_goal_here -/
def a_law_goal : AS' :=
  aSeq (aAsg (aCall s_law_take (aCons (aVar 0) (aCons (aOp aAdd (aVar 2) (aC (.int 1))) (aNil)))) (aGName 4))
  (aSeq (aIfS (aOr (aB (aOp aEq (aVar 4) (aVar 2))) (aAnd (aB (aOp aEq (aVar 3) (aC (.int 1)))) (aB (aOp aLe (aVar 4) (aVar 1)))))
  (aRet (aC .non))
  (aNext))
  (aRet (aVar 4)))
def s_law_goal : ASp := aBody 5 a_law_goal

/- law_machine: slots 0:law_pen_here 1:law_signs_here 2:law_most 3:law_stands 4:law_way 5:law_fence 6:law_ends 7:law_goes 8:law_stand 9:law_row 10:law_number 11:law_goal_here -/
def a_law_machine : AS' :=
  aSeq (aAsg (aOp aAdd (aC (.int 1)) (aCall s_law_take (aCons (aVar 0) (aCons (aVar 2) (aNil))))) (aGName 3))
  (aSeq (aAsg (aCall s_law_take (aCons (aVar 0) (aCons (aC (.int 4)) (aNil)))) (aGName 4))
  (aSeq (aAsg (aOp aAdd (aC (.int 1)) (aCall s_law_take (aCons (aVar 0) (aCons (aVar 3) (aNil))))) (aGName 5))
  (aSeq (aAsg (aLstM (aNil)) (aGName 6))
  (aSeq (aAsg (aLstM (aNil)) (aGName 7))
  (aSeq (aFor (aIR1 (aCons (aVar 3) (aNil))) (aGName 8)
  (aSeq (aDrop (aMeth "list" aAppend (aVar 6) (aCons (aOp aEq (aCall s_law_take (aCons (aVar 0) (aCons (aC (.int 3)) (aNil)))) (aC (.int 0))) (aNil))))
  (aSeq (aAsg (aLc (aIR1 (aCons (aVar 1) (aNil))) (aGName 10) (aYes) (aCall s_law_goal (aCons (aVar 0) (aCons (aVar 8) (aCons (aVar 3) (aCons (aVar 4) (aNil)))))) [10]) (aGName 9))
  (aSeq (aIfS (aAnd (aB (aOp aEq (aVar 4) (aC (.int 2)))) (aB (aOp aLt (aVar 8) (aVar 5))))
  (aSeq (aAsg (aC (.bl false)) (aGSet (aVar 6) (aVar 8)))
  (aAsg (aLc (aIL (aVar 9)) (aGName 11) (aYes) (aOp aIx (aLst (aCons (aVar 11) (aCons (aC .non) (aNil)))) (aCall aInt (aCons (aOrV (aOp aIsN (aVar 11) (aC .non)) (aOp aGe (aVar 11) (aVar 5))) (aNil)))) [11]) (aGName 9)))
  (aNext))
  (aDrop (aMeth "list" aAppend (aVar 7) (aCons (aVar 9) (aNil))))))))
  (aFrz 6 (aFrz 7 (aRet (aTup (aCons (aVar 6) (aCons (aVar 7) (aNil))))))))))))
def s_law_machine : ASp := aBody 12 a_law_machine

/- law_right: slots 0:law_machine_here 1:law_most 2:law_due 3:law_handed 4:law_again 5:law_got 6:law_numbers 7:law_row 8:law_some -/
def a_law_right : AS' :=
  aSeq (aAsg (aCall s_law_table (aCons (aVar 0) (aCons (aVar 1) (aNil)))) (aGName 2))
  (aSeq (aAsg (aTup (aCons (aCall aListOf (aCons (aOp aIx (aVar 0) (aC (.int 0))) (aNil))) (aCons (aLc (aIL (aOp aIx (aVar 0) (aC (.int 1)))) (aGName 7) (aYes) (aCall aListOf (aCons (aVar 7) (aNil))) [7]) (aNil)))) (aGName 3))
  (aSeq (aFor (aIR1 (aCons (aC (.int 2)) (aNil))) (aGName 4)
  (aSeq (aAsg (aCall s_table (aCons (aVar 3) (aCons (aVar 1) (aNil)))) (aGName 5))
  (aSeq (aAsg (aCall s_counts (aCons (aVar 3) (aCons (aVar 1) (aNil)))) (aGName 6))
  (aSeq (aIfS (aOr (aNot (aTru (aCall (s_law_same 4) (aCons (aVar 5) (aCons (aVar 2) (aNil)))))) (aNot (aTru (aCall (s_law_same 4) (aCons (aVar 6) (aCons (aLc (aIL (aVar 2)) (aGName 8) (aYes) (aOp aIx (aVar 8) (aC (.int 0))) [8]) (aNil)))))))
  (aRet (aC (.bl false)))
  (aNext))
  (aSeq (aDrop (aMeth "list" aAppend (aOp aIx (aVar 5) (aC (.int 0))) (aCons (aC (.int 1)) (aNil))))
  (aSeq (aDrop (aMeth0 "list" aClear (aOp aIx (aVar 5) (aUn aNeg (aC (.int 1))))))
  (aSeq (aDrop (aMeth0 "list" aReverse (aVar 6)))
  (aDrop (aMeth "list" aAppend (aVar 6) (aCons (aC (.int 7)) (aNil)))))))))))
  (aRet (aOp aEq (aVar 3) (aVar 0)))))
def s_law_right : ASp := aBody 9 a_law_right

/- law: slots 0:law_script 1:law_machines 2:law_first 3:law_pen_here 4:law_great 5:law_signs_here 6:law_most 7:law_machine_here -/
def a_law : AS' :=
  aSeq (aAsg (aLstM (aNil)) (aGName 1))
  (aSeq (aFor (aIT (aTup (aCons (aC (.int 0)) (aCons (aC (.int 21)) (aNil))))) (aGName 2)
  (aSeq (aAsg (aCall s_law_pen (aCons (aVar 0) (aCons (aVar 2) (aNil)))) (aGName 3))
  (aSeq (aAsg (aOp aEq (aCall s_law_take (aCons (aVar 3) (aCons (aC (.int 16)) (aNil)))) (aC (.int 9))) (aGName 4))
  (aSeq (aAsg (aCall s_law_signs (aCons (aVar 3) (aNil))) (aGName 5))
  (aDrop (aMeth "list" aAppend (aVar 1) (aCons (aCall s_law_machine (aCons (aVar 3) (aCons (aVar 5) (aCons (aOp aIx (aLst (aCons (aC (.int 9)) (aCons (aC (.int 40)) (aNil)))) (aCall aInt (aCons (aVar 4) (aNil)))) (aNil))))) (aNil))))))))
  (aFrz 1 (aSeq (aAsg (aCall s_law_pen (aCons (aVar 0) (aCons (aC (.int 42)) (aNil)))) (aGName 3))
  (aSeq (aAsg (aCall s_law_take (aCons (aVar 3) (aCons (aC (.int 10)) (aNil)))) (aGName 6))
  (aSeq (aIfS (aB (aOp aEq (aCall s_law_take (aCons (aVar 3) (aCons (aC (.int 8)) (aNil)))) (aC (.int 5))))
  (aAsg (aOp aSub (aC (.int 60)) (aCall s_law_take (aCons (aVar 3) (aCons (aC (.int 10)) (aNil))))) (aGName 6))
  (aNext))
  (aSeq (aFor (aIL (aOp aAdd (aVar 1) (aVar 1))) (aGName 7)
  (aIfS (aNot (aTru (aCall s_law_right (aCons (aVar 7) (aCons (aVar 6) (aNil))))))
  (aRet (aC (.bl false)))
  (aNext)))
  (aRet (aC (.bl true)))))))))
def s_law : ASp := aBody 8 a_law

end A_k21
namespace A_k21
open PySem L2 AL
def PenC (c : Cell) : Prop := ∃ (ns : List Int) (k l : Int), c = penD (.scr ns) (.int k) (.int l) ∧ 0 ≤ k ∧ 0 ≤ l
def Pen (C : AH) (p : Addr) : Prop := ∃ c, C p = some c ∧ PenC c
theorem pen_put {C : AH} {p : Addr} {c : Cell} (h : PenC c) : Pen (put C p c) p := ⟨c, put_same, h⟩
theorem Pen.other {C : AH} {p q : Addr} {c : Cell} (h : Pen C p) (hn : p ≠ q) : Pen (put C q c) p := by
  obtain ⟨d, h1, h2⟩ := h
  exact ⟨d, put_other hn h1, h2⟩
theorem Pen.otherD {C : AH} {p q : Addr} (h : Pen C p) (hn : p ≠ q) : Pen (del C q) p := by
  obtain ⟨d, h1, h2⟩ := h
  exact ⟨d, del_other hn h1, h2⟩
theorem mixed_ok {x k : Int} {C : AH} {P : D → AH → Prop} (h : ∀ i, P (.int i) C) : s_law_mixed [.int x, .int k] C P := by
  unfold s_law_mixed a_law_mixed
  walk_at "go"
  exact h _
theorem take_ok {p : Addr} {m : Int} {C : AH} {P : D → AH → Prop} (hp : Pen C p) (hm : 0 < m) (hm2 : m < 1073741824)
    (h : ∀ c d, PenC c → 0 ≤ d → d < m → P (.int d) (put C p c)) : s_law_take [.ce p, .int m] C P := by
  obtain ⟨_, hC, ns, k, l, rfl, hk, hl⟩ := hp
  unfold s_law_take a_law_take
  walk_at "go"
  refine g_ifJ (fun st C' => ∃ (k2 l2 : Int) (x4 x5 : Option D), 0 ≤ k2 ∧ 0 ≤ l2 ∧ (∀ z, put C' p z = put C p z) ∧ C' p = some (penD (.scr ns) (.int k2) (.int l2)) ∧ st = [some (.ce p), some (.int m), some (.int k), some (.scr ns), x4, x5]) (fun N hN => ?_) (fun st C' hw => ?_)
  · refine g_ifS ?_
    walk_at "go"
    refine g_ite (fun h0 => ?_) (fun h0 => ?_)
    · walk_at "go"
      refine g_ifJ (fun st C' => ∃ x : Int, st = [some (.ce p), some (.int m), some (.int k), some (.scr ns), some (.int x), none] ∧ C' = put C p (penD (.scr ns) (.int (k + 1)) (.int l))) (fun N hN => ?_) (fun st C' hw => ?_)
      · refine g_ifS ?_
        walk_at "go"
        refine g_ite (fun h1 => ?_) (fun h1 => ?_)
        · have hl : 0 < ns.length := by have := of_decide_eq_true h1; omega
          walk_at "go"
          refine g_ixR (d := .int (ns.getD (k.toNat % ns.length) 0)) ?_ ?_
          · have e : k % (ns.length : Int) = ((k.toNat % ns.length : Nat) : Int) := by
              rw [Int.natCast_emod, Int.toNat_of_nonneg hk]
            rw [e]
            refine atI_nat' ?_
            have hl : k.toNat % ns.length < ns.length := Nat.mod_lt _ hl
            rw [List.getElem?_map, List.getElem?_eq_getElem hl]
            simp [List.getD, List.getElem?_eq_getElem hl]
          walk_at "go"
          exact hN _ _ ⟨_, rfl, rfl⟩
        · walk_at "go"
          exact hN _ _ ⟨_, rfl, rfl⟩
      · obtain ⟨x, rfl, rfl⟩ := hw
        walk_at "go"
        refine g_ifJ (fun st C' => st = [some (.ce p), some (.int m), some (.int k), some (.scr ns), some (.int x), none] ∧ C' = put C p (penD (.scr ns) (.int (k + 1)) (.int l))) (fun N hN => ?_) (fun st C' hw => ?_)
        · refine g_ifS ?_
          have ret : ∀ N2 : ASt → AH → Prop, (aRet (aOp aMod (aCall s_law_mixed (aCons (aVar 4) (aCons (aVar 2) (aNil)))) (aVar 1))) ⟨N2, P, fun _ _ => False, fun _ _ => False⟩ [some (.ce p), some (.int m), some (.int k), some (.scr ns), some (.int x), none] (put C p (penD (.scr ns) (.int (k + 1)) (.int l))) := by
            intro N2
            walk_at "go"
            refine mixed_ok fun i => ?_
            walk_at "go"
            exact h _ _ ⟨ns, k + 1, l, rfl, by omega, hl⟩ (Int.emod_nonneg _ (by omega)) (Int.emod_lt_of_pos _ hm)
          walk_at "go"
          refine g_ite (fun h2 => ?_) (fun h2 => ?_)
          · refine g_iteT ?_
            exact ret _
          · walk_at "go"
            refine g_ite (fun h3 => ?_) (fun h3 => ?_)
            · exact ret _
            · walk_at "go"
              exact hN _ _ ⟨rfl, rfl⟩
        · obtain ⟨rfl, rfl⟩ := hw
          walk_at "go"
          refine hN _ _ ⟨k + 1, (if x < 0 then -x else x), _, _, by omega, by split <;> omega, fun z => by rw [put_put, put_put], ?_, rfl⟩
          rw [put_put, put_same]
    · walk_at "go"
      exact hN _ _ ⟨k, l, _, _, hk, hl, fun z => rfl, hC, rfl⟩
  · obtain ⟨k2, l2, x4, x5, hk2, hl2, hp2, hC2, rfl⟩ := hw
    walk_at "go"
    rw [hp2]
    exact h _ _ ⟨ns, k2, _, rfl, hk2, Int.ediv_nonneg hl2 (by omega)⟩ (Int.emod_nonneg _ (by omega)) (Int.emod_lt_of_pos _ hm)
end A_k21

namespace A_k21
open PySem L2 AL
theorem take_nat {p : Addr} {m : Nat} {C : AH} {P : D → AH → Prop} (hp : Pen C p) (hm : 0 < m) (hm2 : m < 1073741824)
    (k : ∀ c (d : Nat), PenC c → d < m → P (.int d) (put C p c)) : s_law_take [.ce p, .int m] C P := by
  refine take_ok hp (by omega) (by omega) fun c d hc h0 h1 => ?_
  have e : d = ((d.toNat : Nat) : Int) := by omega
  rw [e]
  exact k c d.toNat hc (by omega)
theorem pen_ok {ns : List Int} {j : Nat} {C : AH} {P : D → AH → Prop} (k : ∀ p c, C p = none → PenC c → P (.ce p) (put C p c)) : s_law_pen [.scr ns, .int j] C P := by
  unfold s_law_pen a_law_pen
  walk_at "go"
  refine g_newPen rfl rfl fun p hp => ?_
  exact k p _ hp ⟨ns, _, _, rfl, by omega, by omega⟩
theorem signs_ok {p : Addr} {C : AH} {P : D → AH → Prop} (hp : Pen C p) (k : ∀ c (sg : Nat), PenC c → 0 < sg → sg ≤ 12 → P (.int sg) (put C p c)) : s_law_signs [.ce p] C P := by
  unfold s_law_signs a_law_signs
  walk_at "go"
  refine take_nat (m := 8) hp (by omega) (by omega) fun c d hc hd => ?_
  walk_at "go"
  refine take_nat (m := 8) (pen_put hc) (by omega) (by omega) fun c e hc he => ?_
  rw [put_put]
  have e5 : (5 : Int) + (d : Int) = ((5 + d : Nat) : Int) := by omega
  rw [e5]
  have : e = 0 ∨ e = 1 ∨ e = 2 ∨ e = 3 ∨ e = 4 ∨ e = 5 ∨ e = 6 ∨ e = 7 := by omega
  rcases this with rfl | rfl | rfl | rfl | rfl | rfl | rfl | rfl
  · exact g_ixL (d := .int (2 : Nat)) rfl (k c 2 hc (by omega) (by omega))
  · exact g_ixL (d := .int (1 : Nat)) rfl (k c 1 hc (by omega) (by omega))
  · exact g_ixL (d := .int (3 : Nat)) rfl (k c 3 hc (by omega) (by omega))
  · exact g_ixL (d := .int (2 : Nat)) rfl (k c 2 hc (by omega) (by omega))
  · exact g_ixL (d := .int (4 : Nat)) rfl (k c 4 hc (by omega) (by omega))
  · exact g_ixL (d := .int (3 : Nat)) rfl (k c 3 hc (by omega) (by omega))
  · exact g_ixL (d := .int (2 : Nat)) rfl (k c 2 hc (by omega) (by omega))
  · exact g_ixL (d := .int (5 + d : Nat)) rfl (k c (5 + d) hc (by omega) (by omega))
theorem goal_ok {p : Addr} {stand stands way : Nat} {C : AH} {P : D → AH → Prop} (hp : Pen C p) (hm : stands < 1000)
    (k : ∀ c (o : Option Nat), PenC c → inn stands o → P (oD o) (put C p c)) : s_law_goal [.ce p, .int stand, .int stands, .int way] C P := by
  unfold s_law_goal a_law_goal
  walk_at "go"
  have e1 : (stands : Int) + 1 = ((stands + 1 : Nat) : Int) := by omega
  rw [e1]
  refine take_nat hp (by omega) (by omega) fun c d hc hd => ?_
  have hno : P .non (put C p c) := k c none hc (fun t ht => by cases ht)
  walk_at "go"
  refine g_ifJ (fun st C' => d < stands ∧ st = [some (.ce p), some (.int stand), some (.int stands), some (.int way), some (.int d)] ∧ C' = put C p c) (fun N hN => ?_) (fun st C' hw => ?_)
  · refine g_ifS ?_
    walk_at "go"
    refine g_iteD (fun h => ?_) (fun h => ?_)
    · walk_at "go"
      exact hno
    · walk_at "go"
      refine g_ite (fun h2 => ?_) (fun h2 => ?_)
      · walk_at "go"
        refine g_ite (fun h3 => ?_) (fun h3 => ?_)
        · walk_at "go"
          exact hno
        · walk_at "go"
          exact hN _ _ ⟨by omega, rfl, rfl⟩
      · walk_at "go"
        exact hN _ _ ⟨by omega, rfl, rfl⟩
  · obtain ⟨hd2, rfl, rfl⟩ := hw
    walk_at "go"
    exact k c (some d) hc (fun t ht => by cases ht; exact hd2)
def rowD (r : List (Option Nat)) : D := .lst (r.map oD)
theorem row_in {fence stands : Nat} {C : AH} {r : List (Option Nat)} (hr : ∀ o ∈ r, inn stands o) : ∀ o ∈ r.map (fun o => match o with | some t => if fence ≤ t then none else some t | none => none), inn stands o := by
  intro o ho
  obtain ⟨o', h1, rfl⟩ := List.mem_map.mp ho
  intro t ht
  cases o' with
  | none => cases ht
  | some u =>
    simp only at ht
    split at ht
    · cases ht
    · exact hr _ h1 t ht
theorem machine_ok {p : Addr} {most sg : Nat} {C : AH} {P : D → AH → Prop} (hp : Pen C p) (hm : 0 < most) (hm2 : most ≤ 100) (hs : sg ≤ 12)
    (k : ∀ ends goes C', Mach sg ends goes → Pen C' p → Oth p C C' → P (machD ends goes) C') : s_law_machine [.ce p, .int sg, .int most] C P := by
  unfold s_law_machine a_law_machine
  walk_at "go"
  refine take_nat hp hm (by omega) fun c d hc hd => ?_
  walk_at "go"
  have e1 : (1 : Int) + (d : Int) = ((d + 1 : Nat) : Int) := by omega
  rw [e1]
  generalize hmany : d + 1 = many
  have hmany2 : 0 < many ∧ many ≤ most := by omega
  refine take_nat (m := 4) (pen_put hc) (by omega) (by omega) fun c way hc hway => ?_
  rw [put_put]
  walk_at "go"
  refine take_nat (pen_put hc) hmany2.1 (by omega) fun c f hc hf => ?_
  rw [put_put]
  walk_at "go"
  have e2 : (1 : Int) + (f : Int) = ((f + 1 : Nat) : Int) := by omega
  rw [e2]
  generalize hfence : f + 1 = fence
  have hP := pen_put (C := C) (p := p) hc
  have hO := (Oth.refl p C).pen (c := c)
  generalize put C p c = C1 at hP hO ⊢
  intro e he
  have hpe : p ≠ e := by obtain ⟨_, h, _⟩ := hP; exact ne_cell h he
  have hP2 := hP.other (c := .lst []) hpe
  have hCe : (put C1 e (.lst [])) e = some (.lst (([] : List Bool).map D.bl)) := put_same
  have he0 : C e = none := hO.none hpe.symm he
  have hO2 := hO.put (c := .lst []) he0
  generalize put C1 e (.lst []) = C2 at hP2 hCe hO2 ⊢
  walk_at "go"
  intro g hg
  have hpg : p ≠ g := by obtain ⟨_, h, _⟩ := hP2; exact ne_cell h hg
  have heg : e ≠ g := ne_cell hCe hg
  have hg0 : C g = none := hO2.none hpg.symm hg
  walk_at "go"
  refine g_kForR0 (fun i st C' => ∃ (ends : List Bool) (rows : List (List (Option Nat))) (x8 x9 : Option D), ends.length = i ∧ rows.length = i ∧ (∀ r ∈ rows, r.length = sg ∧ ∀ o ∈ r, inn many o) ∧ C' e = some (.lst (ends.map D.bl)) ∧ C' g = some (.lst (rows.map rowD)) ∧ Pen C' p ∧ Oth p C C' ∧
      st = [some (.ce p), some (.int sg), some (.int most), some (.int many), some (.int way), some (.int fence), some (.ce e), some (.ce g), x8, x9, none, none]) ?_ (fun i st C' hi hw => ?_) (fun st C' hw => ?_)
  · exact ⟨[], [], none, none, rfl, rfl, by simp, put_other heg hCe, put_same, hP2.other hpg, hO2.put hg0, rfl⟩
  · obtain ⟨ends, rows, x8, x9, hl1, hl2, hr, hCe, hCg, hP, hO, rfl⟩ := hw
    have hi2 : i < many := hi
    walk_at "go"
    refine take_nat (m := 3) hP (by omega) (by omega) fun c d hc hd => ?_
    have hP2 := pen_put (C := C') (p := p) hc
    have hCe2 := put_other (d := c) hpe.symm hCe
    have hCg2 := put_other (d := c) hpg.symm hCg
    have hO2 := hO.pen (c := c)
    generalize put C' p c = C2 at hP2 hCe2 hCg2 hO2 ⊢
    walk_at "go"
    refine g_append hCe2 ?_ ?_
    · simp only [List.length_map, sizeLine]; omega
    have e3 : ends.map D.bl ++ [D.bl (decide ((d : Int) = 0))] = (ends ++ [decide ((d : Int) = 0)]).map D.bl := by simp
    rw [e3]
    have hl3 : (ends ++ [decide ((d : Int) = 0)]).length = i + 1 := by simp [hl1]
    have hCe3 : (put C2 e (.lst ((ends ++ [decide ((d : Int) = 0)]).map D.bl))) e = some (.lst ((ends ++ [decide ((d : Int) = 0)]).map D.bl)) := put_same
    have hCg3 := put_other (d := .lst ((ends ++ [decide ((d : Int) = 0)]).map D.bl)) heg.symm hCg2
    have hP3 := hP2.other (c := .lst ((ends ++ [decide ((d : Int) = 0)]).map D.bl)) hpe
    have hO3 := hO2.put (c := .lst ((ends ++ [decide ((d : Int) = 0)]).map D.bl)) he0
    generalize put C2 e (.lst ((ends ++ [decide ((d : Int) = 0)]).map D.bl)) = C3 at hCe3 hCg3 hP3 hO3 ⊢
    generalize ends ++ [decide ((d : Int) = 0)] = ends2 at hl3 hCe3
    walk_at "go"
    have hrl : (rangeD 0 (sg : Int).toNat).length = sg := by rw [rangeD_len]; rfl
    refine g_kLc (fun j acc C9 => ∃ r : List (Option Nat), r.length = j ∧ acc = r.map oD ∧ (∀ o ∈ r, inn many o) ∧ C9 e = some (.lst (ends2.map D.bl)) ∧ C9 g = some (.lst (rows.map rowD)) ∧ Pen C9 p ∧ Oth p C C9) (by rw [hrl]; simp only [sizeLine]; omega) ⟨[], rfl, rfl, by simp, hCe3, hCg3, hP3, hO3⟩ (fun j d acc C9 hj hw => ?_) (fun acc C9 hw => ?_)
    · obtain ⟨r, hrl2, rfl, hro, hCe9, hCg9, hP9, hO9⟩ := hw
      walk_at "go"
      refine goal_ok hP9 (by omega) fun c o hc ho => ?_
      refine ⟨r ++ [o], by simp [hrl2], by simp, ?_, put_other hpe.symm hCe9, put_other hpg.symm hCg9, pen_put hc, hO9.pen⟩
      intro o2 ho2
      rcases List.mem_append.mp ho2 with h5 | h5
      · exact hro o2 h5
      · rw [List.mem_singleton.mp h5]; exact ho
    · obtain ⟨r, hrl2, rfl, hro, hCe9, hCg9, hP9, hO9⟩ := hw
      rw [hrl] at hrl2
      walk_at "go"
      refine g_ifJ (fun st C10 => ∃ (ends3 : List Bool) (r : List (Option Nat)), r.length = sg ∧ (∀ o ∈ r, inn many o) ∧ ends3.length = i + 1 ∧ C10 e = some (.lst (ends3.map D.bl)) ∧ C10 g = some (.lst (rows.map rowD)) ∧ Pen C10 p ∧ Oth p C C10 ∧ st = [some (.ce p), some (.int sg), some (.int most), some (.int many), some (.int way), some (.int fence), some (.ce e), some (.ce g), some (.int i), some (.lst (r.map oD)), none, none]) (fun N hN => ?_) (fun st C10 hw => ?_)
      · have skip := hN _ C9 ⟨ends2, r, hrl2, hro, hl3, hCe9, hCg9, hP9, hO9, rfl⟩
        refine g_ifS ?_
        walk_at "go"
        refine g_ite (fun h => ?_) (fun h => ?_)
        · walk_at "go"
          refine g_ite (fun h => ?_) (fun h => ?_)
          · walk_at "go"
            refine g_kSet (k := i) (us := ends2.map D.bl) hCe9 ?_ ?_
            · rw [List.length_map, hl3]
              unfold ixN
              rw [if_pos (by omega), if_pos (by omega)]
              rfl
            walk_at "go"
            refine g_kLcMap (fun d => match d with | .int t => if (fence : Int) ≤ t then .non else .int t | d => d) ?_ (fun d hd R hR => ?_) ?_
            · simp only [List.length_map, hrl2, sizeLine]; omega
            · obtain ⟨o, ho, rfl⟩ := List.mem_map.mp hd
              cases o with
              | none =>
                walk_at "go"
                refine g_kOr (fun _ => ?_) (fun h => by cases h)
                walk_at "go"
                exact hR
              | some t =>
                walk_at "go"
                refine g_kOr (fun h => by cases h) (fun _ => ?_)
                rw [show oD (some t) = .int (t : Int) from rfl]
                walk_at "go"
                have hR' : R (if (fence : Int) ≤ (t : Int) then D.non else .int t) _ := hR
                by_cases h6 : (fence : Int) ≤ (t : Int)
                · rw [if_pos h6] at hR'
                  rw [if_pos (decide_eq_true h6)]
                  exact g_ixL (d := .non) rfl hR'
                · rw [if_neg h6] at hR'
                  rw [if_neg (by simpa using h6)]
                  exact g_ixL (d := oD (some t)) rfl hR'
            · walk_at "go"
              have e6 : (r.map oD).map (fun d => match d with | .int t => if (fence : Int) ≤ t then .non else .int t | d => d) = (r.map (fun o => match o with | some t => if fence ≤ t then none else some t | none => none)).map oD := by
                rw [List.map_map, List.map_map]
                refine List.map_congr_left fun o ho => ?_
                cases o with
                | none => rfl
                | some t =>
                  simp only [Function.comp, oD]
                  by_cases h6 : fence ≤ t
                  · rw [if_pos (by omega), if_pos h6]
                  · rw [if_neg (by omega), if_neg h6]
              rw [e6]
              refine hN _ _ ⟨ends2.set i false, _, by simp [hrl2], row_in (C := C) hro, by simp [hl3], ?_, put_other heg.symm hCg9, hP9.other hpe, hO9.put he0, rfl⟩
              rw [put_same, List.map_set]
          · walk_at "go"
            exact skip
        · walk_at "go"
          exact skip
      · obtain ⟨ends3, r, hrl3, hro3, hl4, hCe10, hCg10, hP10, hO10, rfl⟩ := hw
        walk_at "go"
        refine g_append hCg10 ?_ ?_
        · simp only [List.length_map, sizeLine]; omega
        walk_at "go"
        refine ⟨ends3, rows ++ [r], _, _, hl4, by simp [hl2], ?_, put_other heg hCe10, ?_, hP10.other hpg, hO10.put hg0, rfl⟩
        · intro r' hr'
          rcases List.mem_append.mp hr' with h | h
          · exact hr r' h
          · rw [List.mem_singleton.mp h]
            exact ⟨hrl3, hro3⟩
        · rw [put_same, List.map_append]
          rfl
  · obtain ⟨ends, rows, x8, x9, hl1, hl2, hr, hCe, hCg, hP, hO, rfl⟩ := hw
    walk_at "go"
    have hl1' : ends.length = many := hl1
    have hl2' : rows.length = many := hl2
    refine k ends rows _ ⟨by omega, by omega, by omega, fun r hr2 => (hr r hr2).1, fun r hr2 t ht => by rw [hl1']; exact (hr r hr2).2 _ ht t rfl⟩ ((hP.otherD hpe).otherD hpg) ((hO.del he0).del hg0)
end A_k21

namespace A_k21
open PySem L2 AL
/-! ### the table, in plain numbers -/
def rs (l : List Nat) (r : List (Option Nat)) : Nat := ((r.filterMap id).map fun t => l.getD t 0).sum
def f0 (ends : List Bool) : List Nat := ends.map fun b => if b then 1 else 0
def nxt (goes : List (List (Option Nat))) (l : List Nat) : List Nat := goes.map (rs l)
def T (ends : List Bool) (goes : List (List (Option Nat))) : Nat → List Nat
  | 0 => f0 ends
  | i + 1 => nxt goes (T ends goes i)
def tabD (ends : List Bool) (goes : List (List (Option Nat))) (n : Nat) : List D := (List.range n).map fun i => .lst (natsD (T ends goes i))
theorem T_len {sg : Nat} {ends : List Bool} {goes : List (List (Option Nat))} (M : Mach sg ends goes) : ∀ i, (T ends goes i).length = ends.length
  | 0 => by simp [T, f0]
  | i + 1 => by simp [T, nxt, M.len]
theorem tabD_len (ends : List Bool) (goes : List (List (Option Nat))) (n : Nat) : (tabD ends goes n).length = n := by simp [tabD]
theorem tabD_get {ends : List Bool} {goes : List (List (Option Nat))} {n i : Nat} (h : i < n) : (tabD ends goes n)[i]? = some (.lst (natsD (T ends goes i))) := by
  unfold tabD
  rw [List.getElem?_map, List.getElem?_range h]
  rfl
theorem tabD_succ (ends : List Bool) (goes : List (List (Option Nat))) (n : Nat) : tabD ends goes (n + 1) = tabD ends goes n ++ [.lst (natsD (T ends goes n))] := by
  simp [tabD, List.range_succ]
theorem tabD_last (ends : List Bool) (goes : List (List (Option Nat))) (n : Nat) : atI (tabD ends goes (n + 1)) (-1) = some (.lst (natsD (T ends goes n))) := by
  unfold atI ixN
  rw [tabD_len, if_neg (by omega), if_pos (by omega)]
  show (tabD ends goes (n + 1))[(-1 + ((n + 1 : Nat) : Int)).toNat]? = _
  rw [show (-1 + ((n + 1 : Nat) : Int)).toNat = n by omega]
  exact tabD_get (by omega)
theorem sum_le {c : Nat} : ∀ {l : List Nat}, (∀ x ∈ l, x ≤ c) → l.sum ≤ l.length * c
  | [], _ => by simp
  | x :: l, h => by
    have h1 := h x (List.mem_cons_self ..)
    have h2 := sum_le (l := l) fun y hy => h y (List.mem_cons_of_mem _ hy)
    rw [List.sum_cons, List.length_cons, Nat.add_mul]
    omega
theorem T_le {sg : Nat} {ends : List Bool} {goes : List (List (Option Nat))} (M : Mach sg ends goes) (hs : sg ≤ 12) : ∀ i, ∀ x ∈ T ends goes i, x ≤ 12 ^ i
  | 0, x, hx => by
    obtain ⟨b, _, rfl⟩ := List.mem_map.mp (show x ∈ ends.map _ from hx)
    split <;> simp
  | i + 1, x, hx => by
    obtain ⟨r, hr, rfl⟩ := List.mem_map.mp (show x ∈ goes.map (rs (T ends goes i)) from hx)
    have h1 : rs (T ends goes i) r ≤ ((r.filterMap id).map fun t => (T ends goes i).getD t 0).length * 12 ^ i := by
      refine sum_le fun y hy => ?_
      obtain ⟨t, _, rfl⟩ := List.mem_map.mp hy
      by_cases ht : t < (T ends goes i).length
      · simp only [List.getD, List.getElem?_eq_getElem ht, Option.getD_some]
        exact T_le M hs i _ (List.getElem_mem ht)
      · simp [List.getD, List.getElem?_eq_none (Nat.le_of_not_lt ht)]
    have h2 : ((r.filterMap id).map fun t => (T ends goes i).getD t 0).length ≤ 12 := by
      rw [List.length_map]
      have := List.length_filterMap_le id r
      have := M.row r hr
      omega
    rw [Nat.pow_succ, Nat.mul_comm]
    exact Nat.le_trans h1 (Nat.mul_le_mul_right _ h2)
theorem sum_cast : ∀ l : List Nat, (l.map fun (n : Nat) => (n : Int)).sum = ((l.sum : Nat) : Int)
  | [] => rfl
  | n :: l => by rw [List.map_cons, List.sum_cons, List.sum_cons, sum_cast l, Int.natCast_add]
theorem intsD_nats : ∀ l : List Nat, intsD (natsD l) = some (l.map fun (n : Nat) => (n : Int))
  | [] => rfl
  | n :: l => by
    show intsD (.int n :: natsD l) = _
    unfold intsD
    rw [intsD_nats l]
    rfl
theorem del_put {C : AH} {q : Addr} {c : Cell} (h : C q = none) : del (put C q c) q = C := by
  funext a
  unfold del
  split
  · rename_i e; rw [e, h]
  · rename_i e; exact put_ne e
section
variable {sg : Nat} {ends : List Bool} {goes : List (List (Option Nat))} {C : AH} {P : D → AH → Prop}
theorem row_sum {l : List Nat} {s : ASt} {r : List (Option Nat)} {fin : List D → AH → Prop} {i j : Nat} {vs : List Nat} (hi : ∀ o : Option Nat, ((wipeA s vs).set j (some (oD o)))[i]? = some (some (.lst (natsD l)))) (hj : ∀ o : Option Nat, ((wipeA s vs).set j (some (oD o)))[j]? = some (some (oD o)))
    (hr : ∀ o ∈ r, inn l.length o) (hl : r.length ≤ 1000) (k : fin (natsD ((r.filterMap id).map fun t => l.getD t 0)) C) : kLc (aGName j) (aB (aOp aNotN (aVar j) (aC .non))) (aOp aIx (aVar i) (aVar j)) vs fin s (r.map oD) (fun _ => True) C := by
  refine g_kLc (fun n acc C' => acc = natsD (((r.take n).filterMap id).map fun t => l.getD t 0) ∧ C' = C) (by rw [List.length_map]; simp only [sizeLine]; omega) ⟨rfl, rfl⟩ (fun n d acc C' hn hw => ?_) (fun acc C' hw => ?_)
  · obtain ⟨rfl, rfl⟩ := hw
    rw [List.getElem?_map] at hn
    cases q : r[n]? with
    | none => rw [q] at hn; cases hn
    | some o =>
      rw [q] at hn
      cases hn
      rw [List.take_add_one, q, List.filterMap_append, List.map_append]
      refine g_gname' rfl ?_
      refine g_B (g_op (g_var (hj o) (g_c (g_isnot (g_kB ?_)))))
      cases o with
      | none =>
        refine g_iteNT ⟨?_, rfl⟩
        simp
      | some t =>
        refine g_iteNF (g_op (g_var (hi (some t)) (g_var (hj (some t)) ?_)))
        have ht : t < l.length := hr (some t) (List.mem_of_getElem? q) t rfl
        refine g_ixL (d := .int (l[t] : Nat)) (atI_nat' ?_) ⟨?_, rfl⟩
        · unfold natsD
          rw [List.getElem?_map, List.getElem?_eq_getElem ht]
          rfl
        · simp [natsD, List.getD, List.getElem?_eq_getElem ht]
  · obtain ⟨rfl, rfl⟩ := hw
    rw [List.length_map, List.take_length]
    exact k
def TabC (C : AH) (ends : List Bool) (goes : List (List (Option Nat))) (qs : List Addr) : Prop := ∀ i q, qs[i]? = some q → C q = some (.lst (natsD (T ends goes i)))
abbrev cesD (qs : List Addr) : List D := qs.map D.ce
theorem firstC (hl : ends.length ≤ 1000) (k : ∀ q, C q = none → P (.ce q) (put C q (.lst (natsD (f0 ends))))) : s_first_list [machD ends goes] C P := by
  unfold s_first_list a_first_list
  walk_at "go"
  refine g_kLcMap (fun d => match d with | .bl b => .int (if b = true then 1 else 0) | d => d) ?_ (fun d hd R hR => ?_) ?_
  · simp only [List.length_map, sizeLine]; omega
  · obtain ⟨b, _, rfl⟩ := List.mem_map.mp hd
    walk_at "go"
    exact hR
  · intro q hq
    have e : (ends.map D.bl).map (fun d => match d with | .bl b => .int (if b = true then 1 else 0) | d => d) = natsD (f0 ends) := by
      unfold natsD f0
      rw [List.map_map, List.map_map]
      refine List.map_congr_left fun b _ => ?_
      cases b <;> rfl
    rw [e]
    exact k q hq
theorem row_sumC {l : List Nat} {p : Addr} {s : ASt} {r : List (Option Nat)} {fin : List D → AH → Prop} {i j : Nat} {vs : List Nat} (hp : C p = some (.lst (natsD l))) (hi : ∀ o : Option Nat, ((wipeA s vs).set j (some (oD o)))[i]? = some (some (.ce p))) (hj : ∀ o : Option Nat, ((wipeA s vs).set j (some (oD o)))[j]? = some (some (oD o)))
    (hr : ∀ o ∈ r, inn l.length o) (hl : r.length ≤ 1000) (k : fin (natsD ((r.filterMap id).map fun t => l.getD t 0)) C) : kLc (aGName j) (aB (aOp aNotN (aVar j) (aC .non))) (aOp aIx (aVar i) (aVar j)) vs fin s (r.map oD) (fun _ => True) C := by
  refine g_kLc (fun n acc C' => acc = natsD (((r.take n).filterMap id).map fun t => l.getD t 0) ∧ C' = C) (by rw [List.length_map]; simp only [sizeLine]; omega) ⟨rfl, rfl⟩ (fun n d acc C' hn hw => ?_) (fun acc C' hw => ?_)
  · obtain ⟨rfl, rfl⟩ := hw
    rw [List.getElem?_map] at hn
    cases q : r[n]? with
    | none => rw [q] at hn; cases hn
    | some o =>
      rw [q] at hn
      cases hn
      rw [List.take_add_one, q, List.filterMap_append, List.map_append]
      refine g_gname' rfl ?_
      refine g_B (g_op (g_var (hj o) (g_c (g_isnot (g_kB ?_)))))
      cases o with
      | none =>
        refine g_iteNT ⟨?_, rfl⟩
        simp
      | some t =>
        refine g_iteNF (g_op (g_var (hi (some t)) (g_var (hj (some t)) ?_)))
        have ht : t < l.length := hr (some t) (List.mem_of_getElem? q) t rfl
        refine g_ixC hp (g_ixL (d := .int (l[t] : Nat)) (atI_nat' ?_) ⟨?_, rfl⟩)
        · unfold natsD
          rw [List.getElem?_map, List.getElem?_eq_getElem ht]
          rfl
        · simp [natsD, List.getD, List.getElem?_eq_getElem ht]
  · obtain ⟨rfl, rfl⟩ := hw
    rw [List.length_map, List.take_length]
    exact k
theorem behindC (M : Mach sg ends goes) {l : List Nat} {p : Addr} (hs : sg ≤ 12) (hl : l.length = ends.length) (hp : C p = some (.lst (natsD l))) (k : ∀ q, C q = none → P (.ce q) (put C q (.lst (natsD (nxt goes l))))) : s_list_behind [machD ends goes, .ce p] C P := by
  unfold s_list_behind a_list_behind
  walk_at "go"
  intro q hq
  have hpq : p ≠ q := ne_cell hp hq
  walk_at "go"
  have hm := M.most
  have hle := M.len
  refine g_kForL (fun i st C' => ∃ x3, C' = put C q (.lst (natsD ((goes.take i).map (rs l)))) ∧ st = [some (machD ends goes), some (.ce p), some (.ce q), x3, none]) ⟨_, rfl, rfl⟩ (fun i d st C' hi hw => ?_) (fun st C' hw => ?_)
  · obtain ⟨x3, rfl, rfl⟩ := hw
    rw [List.getElem?_map] at hi
    cases e : goes[i]? with
    | none => rw [e] at hi; cases hi
    | some r =>
      rw [e] at hi
      cases hi
      have hr := List.mem_of_getElem? e
      walk_at "go"
      refine row_sumC (l := l) (p := p) (put_other hpq hp) ?_ ?_ (fun o ho t ht => by subst ht; rw [hl]; exact M.go r hr t ho) (by rw [M.row r hr]; omega) ?_
      · exact fun o => rfl
      · exact fun o => rfl
      walk_at "go"
      refine g_sum (intsD_nats _) ?_
      walk_at "go"
      refine g_append put_same ?_ ?_
      · simp only [List.length_map, natsD_len, sizeLine, List.length_take]; omega
      walk_at "go"
      refine ⟨_, ?_, rfl⟩
      rw [put_put, sum_cast, List.take_add_one, e, List.map_append]
      simp [natsD, rs]
  · obtain ⟨x3, rfl, rfl⟩ := hw
    walk_at "go"
    rw [List.length_map, List.take_length]
    exact k q hq
theorem tableC (M : Mach sg ends goes) {most : Nat} (hs : sg ≤ 12) (hm : most ≤ 1000) (k : ∀ qs C', qs.length = most + 1 → TabC C' ends goes qs → (∀ q ∈ qs, C q = none) → Keep C C' → P (.lst (cesD qs)) C') : s_table [machD ends goes, .int most] C P := by
  unfold s_table a_table
  have hmo := M.most
  walk_at "go"
  refine firstC hmo fun q0 hq0 => ?_
  walk_at "go"
  intro f hf
  have hf0 : q0 ≠ f := ne_cell put_same hf
  have hCf : C f = none := by rwa [put_ne hf0.symm] at hf
  walk_at "go"
  refine g_while (fun m st C' => ∃ i qs, i ≤ most ∧ m = most - i ∧ qs.length = i + 1 ∧ f ∉ qs ∧ (∀ q ∈ qs, C q = none) ∧ C' f = some (.lst (cesD qs)) ∧ TabC C' ends goes qs ∧ Keep C C' ∧ st = [some (machD ends goes), some (.int most), some (.ce f)]) most ⟨0, [q0], by omega, by omega, rfl, by simpa using hf0.symm, by simpa using hq0, put_same, ?_, ((Keep.refl C).put hq0).put hCf, rfl⟩ (fun m st C' hw => ?_)
  · intro i q hi
    cases i with
    | zero =>
      cases hi
      rw [put_ne hf0, put_same]
      rfl
    | succ i => simp at hi
  obtain ⟨i, qs, hi, rfl, hl, hfq, hqs, hCf', hT, hK, rfl⟩ := hw
  walk_at "go"
  rw [List.length_map, hl]
  refine g_iteD (fun h => ?_) (fun h => ?_)
  · walk_at "go"
    have hlast : qs[i]? = some qs[i] := List.getElem?_eq_getElem (by omega)
    refine g_ixL (d := .ce qs[i]) ?_ ?_
    · have hlc : (cesD qs).length = i + 1 := by rw [List.length_map, hl]
      have hg : (cesD qs)[i]? = some (.ce qs[i]) := by rw [List.getElem?_map, hlast]; rfl
      exact atI_last hlc hg
    walk_at "go"
    refine behindC M hs (T_len M i) (hT i _ hlast) fun q hq => ?_
    have hqf : q ≠ f := (ne_cell hCf' hq).symm
    walk_at "go"
    refine g_append (put_other hqf.symm hCf') ?_ ?_
    · rw [List.length_map, hl]; simp only [sizeLine]; omega
    walk_at "go"
    refine ⟨most - (i + 1), by omega, i + 1, qs ++ [q], by omega, by omega, by simp [hl], by simp [hfq, hqf.symm], ?_, ?_, ?_, (hK.put (hK.none hq)).put hCf, rfl⟩
    · intro r hr
      rcases List.mem_append.mp hr with h5 | h5
      · exact hqs r h5
      · rw [List.mem_singleton.mp h5]; exact hK.none hq
    · rw [put_same]; simp [cesD]
    · intro j r hj
      have hjl : j < (qs ++ [q]).length := (List.getElem?_eq_some_iff.mp hj).1
      rw [List.length_append, List.length_singleton] at hjl
      by_cases hj2 : j < qs.length
      · rw [List.getElem?_append_left hj2] at hj
        have h1 := hT j r hj
        have hrf : r ≠ f := fun z => hfq (z ▸ List.mem_of_getElem? hj)
        rw [put_ne hrf, put_ne (ne_cell h1 hq)]
        exact h1
      · have e : j = qs.length := by omega
        subst e
        rw [List.getElem?_append_right (Nat.le_refl _), Nat.sub_self] at hj
        cases hj
        rw [put_ne hqf, put_same, hl]
        rfl
  · walk_at "go"
    refine k qs _ (by omega) (fun j r hj => ?_) hqs (hK.del hCf)
    have hrf : r ≠ f := fun z => hfq (z ▸ List.mem_of_getElem? hj)
    exact del_other hrf (hT j r hj)
theorem countsC (M : Mach sg ends goes) {most : Nat} (hs : sg ≤ 12) (hm : most ≤ 1000) (k : ∀ q C', C' q = none → Keep C C' → P (.ce q) (put C' q (.lst (natsD ((List.range (most + 1)).map fun i => (T ends goes i).getD 0 0))))) : s_counts [machD ends goes, .int most] C P := by
  unfold s_counts a_counts
  walk_at "go"
  refine tableC M hs hm fun qs C' hl hT _ hK => ?_
  walk_at "go"
  refine g_kLc (fun n acc C2 => acc = natsD ((List.range n).map fun i => (T ends goes i).getD 0 0) ∧ C2 = C') (by rw [List.length_map]; simp only [sizeLine]; omega) ⟨rfl, rfl⟩ (fun n d acc C2 hn hw => ?_) (fun acc C2 hw => ?_)
  · obtain ⟨rfl, rfl⟩ := hw
    rw [List.getElem?_map] at hn
    cases e : qs[n]? with
    | none => rw [e] at hn; cases hn
    | some q =>
      rw [e] at hn
      cases hn
      walk_at "go"
      have h0 : 0 < (T ends goes n).length := by rw [T_len M]; exact M.pos
      refine g_ixC (hT n q e) (g_ixL (d := .int ((T ends goes n)[0] : Nat)) (atI_nat' (i := 0) ?_) ⟨?_, rfl⟩)
      · unfold natsD
        rw [List.getElem?_map, List.getElem?_eq_getElem h0]
        rfl
      · rw [List.range_succ, List.map_append]
        simp [natsD, List.getD, List.getElem?_eq_getElem h0]
  · obtain ⟨rfl, rfl⟩ := hw
    rw [List.length_map, hl]
    intro q hq
    exact k q _ hq hK
/-! the law's own table -/
theorem ltable_ok (M : Mach sg ends goes) {most : Nat} (hs : sg ≤ 12) (hm : most ≤ 1000) (k : P (.lst (tabD ends goes (most + 1))) C) : s_law_table [machD ends goes, .int most] C P := by
  unfold s_law_table a_law_table
  have hmo := M.most
  have hle := M.len
  walk_at "go"
  refine g_kLcMap (fun d => match d with | .bl b => .int (if b = true then 1 else 0) | d => d) ?_ (fun d hd R hR => ?_) ?_
  · simp only [List.length_map, sizeLine]; omega
  · obtain ⟨b, _, rfl⟩ := List.mem_map.mp hd
    walk_at "go"
    exact hR
  have e : (ends.map D.bl).map (fun d => match d with | .bl b => .int (if b = true then 1 else 0) | d => d) = natsD (f0 ends) := by
    unfold natsD f0
    rw [List.map_map, List.map_map]
    refine List.map_congr_left fun b _ => ?_
    cases b <;> rfl
  rw [e]
  walk_at "go"
  intro q hq
  walk_at "go"
  refine g_while (fun m st C' => ∃ i x3, i ≤ most ∧ m = most - i ∧ C' = put C q (.lst (tabD ends goes (i + 1))) ∧ st = [some (machD ends goes), some (.int most), some (.ce q), x3, none, none, none]) most ⟨0, none, by omega, by omega, rfl, rfl⟩ (fun m st C' hw => ?_)
  obtain ⟨i, x3, hi, rfl, rfl, rfl⟩ := hw
  walk_at "go"
  rw [tabD_len]
  refine g_iteD (fun h => ?_) (fun h => ?_)
  · walk_at "go"
    refine g_ixL (tabD_last ends goes i) ?_
    walk_at "go"
    refine g_kLc (fun n acc C2 => acc = natsD ((goes.take n).map (rs (T ends goes i))) ∧ C2 = put C q (.lst (tabD ends goes (i + 1)))) (by rw [List.length_map]; simp only [sizeLine]; omega) ⟨rfl, rfl⟩ (fun n d acc C2 hn hw => ?_) (fun acc C2 hw => ?_)
    · obtain ⟨rfl, rfl⟩ := hw
      rw [List.getElem?_map] at hn
      cases e : goes[n]? with
      | none => rw [e] at hn; cases hn
      | some r =>
        rw [e] at hn
        cases hn
        have hr := List.mem_of_getElem? e
        walk_at "go"
        refine row_sum (l := T ends goes i) ?_ ?_ (fun o ho t ht => by subst ht; rw [T_len M]; exact M.go r hr t ho) (by rw [M.row r hr]; omega) ?_
        · exact fun o => rfl
        · exact fun o => rfl
        walk_at "go"
        refine g_sum (intsD_nats _) ⟨?_, rfl⟩
        rw [sum_cast, List.take_add_one, e, List.map_append]
        simp [natsD, rs]
    · obtain ⟨rfl, rfl⟩ := hw
      rw [List.length_map, List.take_length]
      walk_at "go"
      refine g_append put_same ?_ ?_
      · rw [tabD_len]; simp only [sizeLine]; omega
      walk_at "go"
      refine ⟨most - (i + 1), by omega, i + 1, _, by omega, by omega, ?_, rfl⟩
      rw [put_put, tabD_succ ends goes (i + 1)]
      rfl
  · walk_at "go"
    rw [del_put hq, show i = most by omega]
    exact k
end
end A_k21

namespace A_k21
open PySem L2 AL
section
variable {sg : Nat} {ends : List Bool} {goes : List (List (Option Nat))} {C : AH} {P : D → AH → Prop}
/-! alike, kind by kind -/
inductive Like (C : AH) : Nat → D → D → Prop
  | int (n : Nat) (i : Int) : Like C n (.int i) (.int i)
  | lst {n : Nat} {g : D} {gs ds : List D} : kindOf C g = some "list" → asLr C g = some gs → gs.length = ds.length → ds.length ≤ 10000 → (∀ (i : Nat) x y, gs[i]? = some x → ds[i]? = some y → Like C n x y) → Like C (n + 1) g (.lst ds)
theorem same_ok : ∀ (m n : Nat) (g d : D) (P : D → AH → Prop), Like C n g d → n < m → P (.bl true) C → s_law_same m [g, d] C P
  := by
  intro m
  induction m with
  | zero => exact fun _ _ _ _ _ h _ => absurd h (Nat.not_lt_zero _)
  | succ m ih =>
    intro n g d P hL hm k
    show aBody _ (a_law_same (s_law_same m)) _ _ _
    unfold a_law_same
    cases hL with
    | int n i =>
      walk_at "go"
      refine g_ifF (fun K hK => ?_) ?_
      · refine g_tru (g_isi2 (g_var rfl (g_kIsi2 (t := "int") rfl ?_)))
        exact g_kTruB hK
      walk_at "go"
      refine g_ifF (fun K hK => ?_) ?_
      · walk_at "go"
        refine g_iteF ?_
        refine g_tru (g_isi2 (g_var rfl (g_kIsi2 (t := "int") rfl ?_)))
        exact g_kTruB hK
      walk_at "go"
      refine g_kAnd (fun _ => ?_) (fun h => by cases h)
      walk_at "go"
      refine g_kAnd (fun _ => ?_) (fun h => by cases h)
      walk_at "go"
      rw [decide_eq_true rfl]
      exact k
    | @lst n _ gs ds hk hg hl hz hi =>
      walk_at "go"
      refine g_ifT (fun K hK => ?_) ?_
      · refine g_tru (g_isi2 (g_var rfl (g_kIsi2 (t := "list") rfl ?_)))
        exact g_kTruB hK
      walk_at "go"
      refine g_ifF (fun K hK => ?_) ?_
      · refine g_or (g_not (g_tru (g_isi2 (g_var rfl (g_kIsi2 hk ?_)))))
        refine g_kTruB ?_
        refine g_iteNT ?_
        refine g_B (g_op (g_isi (g_var rfl (g_kIsi hk ?_))))
        walk_at "go"
        exact hK
      walk_at "go"
      refine lenG hg ?_
      walk_at "go"
      refine g_kAnd (fun _ => ?_) (fun h => by rw [decide_eq_false_iff_not] at h; exact absurd (by rw [hl]) h)
      walk_at "go"
      refine g_kIZg hg (rfl : asLr C (.lst ds) = some ds) ⟨?_, fun i acc C' => acc = List.replicate i (.bl true) ∧ C' = C, ⟨rfl, rfl⟩, fun i acc C' _ hw => ?_, fun i x acc C' hx hw => ?_, fun acc C' hw => ?_⟩
      · rw [zipD_len, hl, Nat.min_self]; simp only [sizeLine]; omega
      · obtain ⟨_, rfl⟩ := hw; exact ⟨hg, rfl⟩
      · obtain ⟨rfl, rfl⟩ := hw
        obtain ⟨a, b, ha, hb, rfl⟩ := zipD_inv hx
        walk_at "go"
        refine ih n a b _ (hi i a b ha hb) (by omega) ?_
        exact ⟨by rw [List.replicate_succ'], rfl⟩
      · obtain ⟨rfl, rfl⟩ := hw
        walk_at "go"
        refine g_all (bs := List.replicate _ true) (by rw [← List.map_replicate]; exact bls_map _) ?_
        rw [show (List.replicate (zipD gs ds).length true).all id = true by simp]
        exact k
theorem like_nats {C : AH} {xs : List Nat} {g : D} (hk : kindOf C g = some "list") (hg : asLr C g = some (natsD xs)) (hl : xs.length ≤ 10000) : Like C 1 g (.lst (natsD xs)) := by
  refine .lst hk hg rfl (by rw [natsD_len]; exact hl) fun i x y hx hy => ?_
  rw [hx] at hy
  cases hy
  obtain ⟨_, rfl⟩ := natsD_get hx
  exact .int 0 _
theorem like_ce {C : AH} {xs : List Nat} {q : Addr} (h : C q = some (.lst (natsD xs))) (hl : xs.length ≤ 10000) : Like C 1 (.ce q) (.lst (natsD xs)) :=
  like_nats (by simp [kindOf, h]) (by simp [asLr, asL, h]) hl
theorem like_tab (M : Mach sg ends goes) {qs : List Addr} {n : Nat} (hl : qs.length = n) (hn : n ≤ 100) (hT : TabC C ends goes qs) : Like C 2 (.lst (cesD qs)) (.lst (tabD ends goes n)) := by
  refine .lst rfl rfl (by rw [List.length_map, tabD_len, hl]) (by rw [tabD_len]; omega) fun i x y hx hy => ?_
  have hi : i < n := by have := (List.getElem?_eq_some_iff.mp hy).1; rw [tabD_len] at this; exact this
  rw [tabD_get hi] at hy
  cases hy
  rw [List.getElem?_map] at hx
  cases e : qs[i]? with
  | none => rw [e] at hx; cases hx
  | some q =>
    rw [e] at hx
    cases hx
    refine like_ce (hT i q e) ?_
    rw [T_len M]
    have := M.most
    omega
theorem right_ok (M : Mach sg ends goes) (hs : sg ≤ 12) {n : Nat} (hn : n ≤ 60) (k : ∀ C', P (.bl true) C') : s_law_right [machD ends goes, .int n] C P := by
  unfold s_law_right a_law_right
  have hmo := M.most
  have hle := M.len
  walk_at "go"
  refine ltable_ok M hs (by omega) ?_
  walk_at "go"
  refine g_kLcMap (fun d => d) ?_ (fun d hd R hR => ?_) ?_
  · simp only [List.length_map, sizeLine]; omega
  · obtain ⟨r, _, rfl⟩ := List.mem_map.mp hd
    walk_at "go"
    exact hR
  rw [List.map_id']
  walk_at "go"
  refine g_kForR0 (fun j st C' => ∃ x4 x5 x6, Keep C C' ∧ st = [some (machD ends goes), some (.int n), some (.lst (tabD ends goes (n + 1))), some (machD ends goes), x4, x5, x6, none, none]) ⟨none, none, none, Keep.refl C, rfl⟩ (fun j st C' hj hw => ?_) (fun st C' hw => ?_)
  · obtain ⟨x4, x5, x6, hK, rfl⟩ := hw
    walk_at "go"
    refine tableC M hs (by omega) fun qs C1 hl hT hqs hK1 => ?_
    walk_at "go"
    refine countsC M hs (by omega) fun q C2 hq hK2 => ?_
    have hT2 : TabC C2 ends goes qs := fun i r hi => hK2 r _ (hT i r hi)
    walk_at "go"
    have hqn : (put C2 q (.lst (natsD ((List.range (n + 1)).map fun i => (T ends goes i).getD 0 0)))) q = some (.lst (natsD ((List.range (n + 1)).map fun i => (T ends goes i).getD 0 0))) := put_same
    have hT3 : TabC (put C2 q (.lst (natsD ((List.range (n + 1)).map fun i => (T ends goes i).getD 0 0)))) ends goes qs := fun i r hi => put_other (ne_cell (hT2 i r hi) hq) (hT2 i r hi)
    have hCq : C q = none := hK.none (hK1.none (hK2.none hq))
    have hK3 : Keep C (put C2 q (.lst (natsD ((List.range (n + 1)).map fun i => (T ends goes i).getD 0 0)))) := Keep.put (fun r c e => hK2 r c (hK1 r c (hK r c e))) hCq
    generalize put C2 q (.lst (natsD ((List.range (n + 1)).map fun i => (T ends goes i).getD 0 0))) = C3 at hqn hT3 hK3 ⊢
    refine g_ifF (fun K hK => ?_) ?_
    · refine g_or ?_
      walk_at "go"
      refine same_ok 4 2 _ _ _ (like_tab M hl (by omega) hT3) (by omega) ?_
      walk_at "go"
      refine g_kLc (fun n' acc C2 => acc = natsD ((List.range n').map fun i => (T ends goes i).getD 0 0) ∧ C2 = C3) (by rw [tabD_len]; simp only [sizeLine]; omega) ⟨rfl, rfl⟩ (fun n' d acc C2 hn hw => ?_) (fun acc C2 hw => ?_)
      · obtain ⟨rfl, rfl⟩ := hw
        have hn1 : n' < n + 1 := by have := (List.getElem?_eq_some_iff.mp hn).1; rw [tabD_len] at this; exact this
        rw [tabD_get hn1] at hn
        cases hn
        walk_at "go"
        have h0 : 0 < (T ends goes n').length := by rw [T_len M]; exact M.pos
        refine g_ixL (d := .int ((T ends goes n')[0] : Nat)) (atI_nat' (i := 0) ?_) ⟨?_, rfl⟩
        · unfold natsD
          rw [List.getElem?_map, List.getElem?_eq_getElem h0]
          rfl
        · rw [List.range_succ, List.map_append]
          simp [natsD, List.getD, List.getElem?_eq_getElem h0]
      · obtain ⟨rfl, rfl⟩ := hw
        rw [tabD_len]
        walk_at "go"
        refine same_ok 4 1 _ _ _ (like_ce hqn ?_) (by omega) ?_
        · rw [List.length_map, List.length_range]; omega
        walk_at "go"
        exact hK
    walk_at "go"
    have hq0 : qs[0]? = some qs[0] := List.getElem?_eq_getElem (by omega)
    have hqn0 : qs[n]? = some qs[n] := List.getElem?_eq_getElem (by omega)
    refine g_ixL (d := .ce qs[0]) (atI_nat' (i := 0) (by rw [List.getElem?_map, hq0]; rfl)) ?_
    refine g_ty (isTy_ce (hT3 0 _ hq0) rfl) ?_
    walk_at "go"
    refine g_append (hT3 0 _ hq0) ?_ ?_
    · rw [natsD_len, T_len M]; simp only [sizeLine]; omega
    walk_at "go"
    have hN0 : C qs[0] = none := hK.none (hqs _ (List.getElem_mem _))
    have hNn : C qs[n] = none := hK.none (hqs _ (List.getElem_mem _))
    have hl2 : (cesD qs).length = n + 1 := by rw [List.length_map, hl]
    refine g_ixL (d := .ce qs[n]) (atI_last hl2 (by rw [List.getElem?_map, hqn0]; rfl)) ?_
    have hx : ∃ us, (put C3 qs[0] (.lst (natsD (T ends goes 0) ++ [D.int 1]))) qs[n] = some (.lst us) := by
      by_cases z : qs[n] = qs[0]
      · rw [z, put_same]; exact ⟨_, rfl⟩
      · rw [put_ne z]; exact ⟨_, hT3 n _ hqn0⟩
    obtain ⟨us, hx⟩ := hx
    refine g_ty (isTy_ce hx rfl) ?_
    refine g_clear hx ?_
    walk_at "go"
    have hy : ∃ us, (put (put C3 qs[0] (.lst (natsD (T ends goes 0) ++ [D.int 1]))) qs[n] (.lst [])) q = some (.lst us) ∧ us.length ≤ 1001 := by
      by_cases z : q = qs[n]
      · rw [z, put_same]; exact ⟨_, rfl, by simp⟩
      · rw [put_ne z]
        by_cases z : q = qs[0]
        · rw [z, put_same]; exact ⟨_, rfl, by rw [List.length_append, natsD_len, T_len M, List.length_singleton]; omega⟩
        · rw [put_ne z]; exact ⟨_, hqn, by rw [natsD_len, List.length_map, List.length_range]; omega⟩
    obtain ⟨vs, hy, hv⟩ := hy
    refine g_ty (isTy_ce hy rfl) ?_
    refine g_reverse hy ?_
    walk_at "go"
    refine g_append put_same ?_ ?_
    · rw [List.length_reverse]; simp only [sizeLine]; omega
    walk_at "go"
    exact ⟨_, _, _, (((hK3.put hN0).put hNn).put hCq).put hCq, rfl⟩
  · obtain ⟨x4, x5, x6, hK, rfl⟩ := hw
    walk_at "go"
    refine g_eqR 5 (okD_mach ends goes 2) (by decide) ?_
    exact k _
end
theorem law_true : ∀ ns : List Int, ns.length ≤ 63 → s_law [.scr ns] (fun _ => none) (fun d _ => d = .bl true) := by
  intro ns _
  unfold s_law a_law
  walk_at "go"
  intro mq hmq
  walk_at "go"
  refine g_kForL (fun i st C => ∃ (ms : List (List Bool × List (List (Option Nat)))) (x2 x3 x4 x5 : Option D), i = ms.length ∧ (∀ m ∈ ms, ∃ sg, sg ≤ 12 ∧ Mach sg m.1 m.2) ∧ C mq = some (.lst (ms.map fun m => machD m.1 m.2)) ∧ st = [some (.scr ns), some (.ce mq), x2, x3, x4, x5, none, none]) ⟨[], none, none, none, none, rfl, by simp, put_same, rfl⟩ (fun i d st C hi hw => ?_) (fun st C hw => ?_)
  · obtain ⟨ms, x2, x3, x4, x5, rfl, hM, hmq, rfl⟩ := hw
    have hd : ∃ j : Nat, d = .int j := by
      have : ms.length < 2 := (List.getElem?_eq_some_iff.mp hi).1
      have : ms.length = 0 ∨ ms.length = 1 := by omega
      rcases this with e | e <;> rw [e] at hi <;> cases hi
      · exact ⟨0, rfl⟩
      · exact ⟨21, rfl⟩
    obtain ⟨j, rfl⟩ := hd
    walk_at "go"
    refine pen_ok fun p c hp hc => ?_
    have hmp : mq ≠ p := ne_cell hmq hp
    walk_at "go"
    refine take_nat (m := 16) (pen_put hc) (by omega) (by omega) fun c g hc hg => ?_
    rw [put_put]
    walk_at "go"
    refine signs_ok (pen_put hc) fun c sg hc h1 hs => ?_
    rw [put_put]
    walk_at "go"
    have hgo : ∀ most : Nat, 0 < most → most ≤ 100 → ∀ C0 : AH, Pen C0 p → C0 mq = some (.lst (ms.map fun m => machD m.1 m.2)) → ∀ Q : D → AH → Prop, (∀ ends goes C', Mach sg ends goes → C' mq = some (.lst (ms.map fun m => machD m.1 m.2)) → Q (machD ends goes) C') → s_law_machine [.ce p, .int sg, .int most] C0 Q := by
      intro most h1 h2 C0 hP hC Q hQ
      exact machine_ok hP h1 h2 hs fun ends goes C' M _ hO => hQ ends goes C' M (hO _ _ hmp hC)
    have fin : ∀ ends goes C', Mach sg ends goes → C' mq = some (.lst (ms.map fun m => machD m.1 m.2)) → aAppend (.ce mq) [machD ends goes] C' fun x C1 => ∃ (ms' : List (List Bool × List (List (Option Nat)))) (x2 x3 x4 x5 : Option D), ms.length + 1 = ms'.length ∧ (∀ m ∈ ms', ∃ sg, sg ≤ 12 ∧ Mach sg m.1 m.2) ∧ C1 mq = some (.lst (ms'.map fun m => machD m.1 m.2)) ∧ [some (.scr ns), some (.ce mq), some (.int j), some (.ce p), some (.bl (decide ((g : Int) = 9))), some (.int sg), none, none] = [some (.scr ns), some (.ce mq), x2, x3, x4, x5, none, none] := by
      intro ends goes C' M hC
      have hms : ms.length < 2 := (List.getElem?_eq_some_iff.mp hi).1
      refine g_append hC ?_ ⟨ms ++ [(ends, goes)], _, _, _, _, by simp, fun m hm => ?_, ?_, rfl⟩
      · rw [List.length_map]; simp only [sizeLine]; omega
      · rcases List.mem_append.mp hm with h5 | h5
        · exact hM m h5
        · rw [List.mem_singleton.mp h5]; exact ⟨sg, hs, M⟩
      · rw [put_same, List.map_append]; rfl
    have hcq : (put C p c) mq = some (.lst (ms.map fun m => machD m.1 m.2)) := put_other hmp hmq
    by_cases h9 : (g : Int) = 9
    · rw [decide_eq_true h9] at fin ⊢
      refine g_ixL (d := .int (40 : Nat)) rfl ?_
      walk_at "go"
      refine hgo 40 (by omega) (by omega) _ (pen_put hc) hcq _ fun ends goes C' M hC => ?_
      walk_at "go"
      exact fin ends goes C' M hC
    · rw [decide_eq_false h9] at fin ⊢
      refine g_ixL (d := .int (9 : Nat)) rfl ?_
      walk_at "go"
      refine hgo 9 (by omega) (by omega) _ (pen_put hc) hcq _ fun ends goes C' M hC => ?_
      walk_at "go"
      exact fin ends goes C' M hC
  · obtain ⟨ms, x2, x3, x4, x5, hl, hM, hmq, rfl⟩ := hw
    walk_at "go"
    refine pen_ok (j := 42) fun p c hp hc => ?_
    walk_at "go"
    refine take_nat (m := 10) (pen_put hc) (by omega) (by omega) fun c n1 hc hn1 => ?_
    rw [put_put]
    walk_at "go"
    refine g_ifJ (fun st C' => ∃ n : Nat, n ≤ 60 ∧ st = [some (.scr ns), some (.lst (ms.map fun m => machD m.1 m.2)), x2, some (.ce p), x4, x5, some (.int n), none]) (fun N hN => ?_) (fun st C' hw => ?_)
    · refine g_ifS ?_
      walk_at "go"
      refine take_nat (m := 8) (pen_put hc) (by omega) (by omega) fun c n2 hc hn2 => ?_
      walk_at "go"
      refine g_ite (fun h => ?_) (fun h => ?_)
      · walk_at "go"
        refine take_nat (m := 10) (pen_put hc) (by omega) (by omega) fun c n3 hc hn3 => ?_
        walk_at "go"
        exact hN _ _ ⟨60 - n3, by omega, by rw [show (60 : Int) - (n3 : Int) = ((60 - n3 : Nat) : Int) by omega]⟩
      · walk_at "go"
        exact hN _ _ ⟨n1, by omega, rfl⟩
    · obtain ⟨n, hn, rfl⟩ := hw
      walk_at "go"
      have hms : ms.length = 2 := by rw [← hl]; rfl
      refine g_addL ?_ ?_
      · rw [List.length_map, hms]; simp only [sizeLine]; omega
      walk_at "go"
      refine g_kForL (fun i st C' => ∃ x7, st = [some (.scr ns), some (.lst (ms.map fun m => machD m.1 m.2)), x2, some (.ce p), x4, x5, some (.int n), x7]) ⟨_, rfl⟩ (fun i d st C' hi hw => ?_) (fun st C' hw => ?_)
      · obtain ⟨x7, rfl⟩ := hw
        have hd : d ∈ (ms.map fun m => machD m.1 m.2) := by
          have := List.mem_of_getElem? hi
          rcases List.mem_append.mp this with h5 | h5 <;> exact h5
        obtain ⟨m, hm, rfl⟩ := List.mem_map.mp hd
        obtain ⟨sg, hs, M⟩ := hM m hm
        refine g_ifFC (Z := fun _ => True) (fun K hK => ?_) (fun C3 _ => ?_)
        · walk_at "go"
          refine right_ok M hs hn fun C2 => ?_
          walk_at "go"
          exact hK _ trivial
        walk_at "go"
        exact ⟨_, rfl⟩
      · obtain ⟨x7, rfl⟩ := hw
        walk_at "go"
        rfl
end A_k21

namespace A_k21
open PySem PySem.Spec L2 AL
open PyProof.Rows (envOfC)
def topS (i : Nat) : Stmt := PySem.Challenge.pw_wordrules_k21_tables_told.main.body.getD i (.Pass ⟨0, 0, 0, 0⟩)
abbrev st_first_list : Stmt := topS 1
theorem sc_first_list : FnScope ["machine", "one"] ["machine"] (defScope st_first_list) := ⟨rfl, rfl, rfl, by decide +kernel, rfl, by decide +kernel, by decide +kernel⟩
theorem ok_first_list {P : Program} {w : World} {K : PySem.W.Frag} {mg : Str → Option Value} {base : Heap} {f : Addr} {fd : FuncData} (F : L2.Fun K "first_list" "first_list" st_first_list f fd) (hm : mg "first_list" = some (.ref f)) (hb : Binds K fd ["machine"] []) (m_int : mg "int" = none) : Cal P w K mg base 1 "first_list" 1 s_first_list := by
  refine calA (b := a_first_list) F sc_first_list rfl hm hb ?_ (fun _ _ _ _ h => h)
  intro cdv A outer s H E hr
  exact ⟨_, ass_one (as_ret (ae_lcM [("one", 1)] sc_first_list.nd (ai_list (K := K) (ae_ix (K := K) (ae_v 0) (ae_int))) (blkOk_by (own := [("one", 1)]) (N := ["machine", "one"]) (sc := defScope st_first_list) (by decide +kernel)) (fun _ _ _ _ _ => ag_name 1 (vs := [1]) sc_first_list.nd rfl (.inl rfl)) (fun _ _ _ _ _ => ats_nil) (fun _ _ _ _ _ => ae_callT ac_int m_int (by decide +kernel) (aa_cons (ae_v 1) (aa_nil)))))⟩

abbrev st_list_behind : Stmt := topS 2
theorem sc_list_behind : FnScope ["machine", "ahead", "found", "row", "stand"] ["machine", "ahead"] (defScope st_list_behind) := ⟨rfl, rfl, rfl, by decide +kernel, rfl, by decide +kernel, by decide +kernel⟩
theorem ok_list_behind {P : Program} {w : World} {K : PySem.W.Frag} {mg : Str → Option Value} {base : Heap} {f : Addr} {fd : FuncData} (F : L2.Fun K "list_behind" "list_behind" st_list_behind f fd) (hm : mg "list_behind" = some (.ref f)) (hb : Binds K fd ["machine", "ahead"] []) (m_sum : mg "sum" = none) : Cal P w K mg base 1 "list_behind" 2 s_list_behind := by
  refine calA (b := a_list_behind) F sc_list_behind rfl hm hb ?_ (fun _ _ _ _ h => h)
  intro cdv A outer s H E hr
  exact ⟨_, ass_cons (as_set 2 sc_list_behind.nd (ae_lstM (aa_nil)) rfl (.inl rfl))
      (ass_cons (as_for (ai_list (K := K) (ae_ix (K := K) (ae_v 0) (ae_int))) (ag_name 3 (vs := [3]) sc_list_behind.nd rfl (.inl rfl))
      (ass_one (as_expr (ae_meth (K := K) PySem.F.plainAttrs_list PySem.F.slot_list_append PySem.F.type_list_append am_append (ae_v 2) (aa_cons (ae_callB (ac_sum (K := K)) m_sum (by decide +kernel) (aa_cons (ae_lc [("stand", 4)] sc_list_behind.nd (ai_list (K := K) (ae_v 3)) (blkOk_by (own := [("stand", 4)]) (N := ["machine", "ahead", "found", "row", "stand"]) (sc := defScope st_list_behind) (by decide +kernel)) (fun _ _ _ _ _ => ag_name 4 (vs := [4]) sc_list_behind.nd rfl (.inl rfl)) (fun _ _ _ _ _ => ats_one (at_cmp ao_isnot (ae_v 4) (ae_non))) (fun _ _ _ _ _ => ae_ix (K := K) (ae_v 1) (ae_v 4))) (aa_nil))) (aa_nil))))))
      (ass_one (as_ret (ae_v 2))))⟩

abbrev st_law_pen : Stmt := topS 6
theorem sc_law_pen : FnScope ["_law_script", "_law_first"] ["_law_script", "_law_first"] (defScope st_law_pen) := ⟨rfl, rfl, rfl, by decide +kernel, rfl, by decide +kernel, by decide +kernel⟩
theorem ok_law_pen {P : Program} {w : World} {K : PySem.W.Frag} {mg : Str → Option Value} {base : Heap} {f : Addr} {fd : FuncData} (F : L2.Fun K "_law_pen" "_law_pen" st_law_pen f fd) (hm : mg "_law_pen" = some (.ref f)) (hb : Binds K fd ["_law_script", "_law_first"] []) : Cal P w K mg base 1 "_law_pen" 2 s_law_pen := by
  refine calA (b := a_law_pen) F sc_law_pen rfl hm hb ?_ (fun _ _ _ _ h => h)
  intro cdv A outer s H E hr
  exact ⟨_, ass_one (as_ret (ae_disp (aps_str (ae_v 0) (aps_str (ae_v 1) (aps_str (ae_int) (aps_nil))))))⟩

abbrev st_law_mixed : Stmt := topS 7
theorem sc_law_mixed : FnScope ["_law_cell", "_law_k", "_law_one", "_law_two"] ["_law_cell", "_law_k"] (defScope st_law_mixed) := ⟨rfl, rfl, rfl, by decide +kernel, rfl, by decide +kernel, by decide +kernel⟩
theorem ok_law_mixed {P : Program} {w : World} {K : PySem.W.Frag} {mg : Str → Option Value} {base : Heap} {f : Addr} {fd : FuncData} (F : L2.Fun K "_law_mixed" "_law_mixed" st_law_mixed f fd) (hm : mg "_law_mixed" = some (.ref f)) (hb : Binds K fd ["_law_cell", "_law_k"] []) : Cal P w K mg base 1 "_law_mixed" 2 s_law_mixed := by
  refine calA (b := a_law_mixed) F sc_law_mixed rfl hm hb ?_ (fun _ _ _ _ h => h)
  intro cdv A outer s H E hr
  exact ⟨_, ass_cons (as_set 2 sc_law_mixed.nd (ae_op ao_mod (ae_op ao_mul (ae_op (ao_add (K := K)) (ae_op (ao_add (K := K)) (ae_op ao_mod (ae_v 0) (ae_int)) (ae_op ao_mul (ae_int) (ae_v 1))) (ae_int)) (ae_int)) (ae_int)) rfl (.inl rfl))
      (ass_cons (as_set 3 sc_law_mixed.nd (ae_op ao_mod (ae_op (ao_add (K := K)) (ae_op (ao_add (K := K)) (ae_op ao_mul (ae_v 2) (ae_v 2)) (ae_op ao_mul (ae_int) (ae_v 2))) (ae_v 1)) (ae_int)) rfl (.inl rfl))
      (ass_one (as_ret (ae_op ao_div (ae_op ao_mod (ae_op (ao_add (K := K)) (ae_op (ao_add (K := K)) (ae_op ao_mul (ae_v 3) (ae_v 3)) (ae_op ao_mul (ae_int) (ae_v 3))) (ae_op ao_mul (ae_int) (ae_v 1))) (ae_int)) (ae_int)))))⟩

abbrev st_law_table : Stmt := topS 12
theorem sc_law_table : FnScope ["_law_machine_here", "_law_most", "_law_lists", "_law_ahead", "_law_one", "_law_row", "_law_goal_here"] ["_law_machine_here", "_law_most"] (defScope st_law_table) := ⟨rfl, rfl, rfl, by decide +kernel, rfl, by decide +kernel, by decide +kernel⟩
theorem ok_law_table {P : Program} {w : World} {K : PySem.W.Frag} {mg : Str → Option Value} {base : Heap} {f : Addr} {fd : FuncData} (F : L2.Fun K "_law_table" "_law_table" st_law_table f fd) (hm : mg "_law_table" = some (.ref f)) (hb : Binds K fd ["_law_machine_here", "_law_most"] []) (m_int : mg "int" = none) (m_len : mg "len" = none) (m_sum : mg "sum" = none) : Cal P w K mg base 1 "_law_table" 2 s_law_table := by
  refine calA (b := a_law_table) F sc_law_table rfl hm hb ?_ (fun _ _ _ _ h => h)
  intro cdv A outer s H E hr
  exact ⟨_, ass_cons (as_set 2 sc_law_table.nd (ae_lstM (aa_cons (ae_lc [("_law_one", 4)] sc_law_table.nd (ai_list (K := K) (ae_ix (K := K) (ae_v 0) (ae_int))) (blkOk_by (own := [("_law_one", 4)]) (N := ["_law_machine_here", "_law_most", "_law_lists", "_law_ahead", "_law_one", "_law_row", "_law_goal_here"]) (sc := defScope st_law_table) (by decide +kernel)) (fun _ _ _ _ _ => ag_name 4 (vs := [4]) sc_law_table.nd rfl (.inl rfl)) (fun _ _ _ _ _ => ats_nil) (fun _ _ _ _ _ => ae_callT ac_int m_int (by decide +kernel) (aa_cons (ae_v 4) (aa_nil)))) (aa_nil))) rfl (.inl rfl))
      (ass_cons (as_while (at_cmp ao_le (ae_callB (ac_len (K := K)) m_len (by decide +kernel) (aa_cons (ae_v 2) (aa_nil))) (ae_v 1))
      (ass_cons (as_set 3 sc_law_table.nd (ae_ix (K := K) (ae_v 2) (ae_neg (ae_int))) rfl (.inr rfl))
      (ass_one (as_expr (ae_meth (K := K) PySem.F.plainAttrs_list PySem.F.slot_list_append PySem.F.type_list_append am_append (ae_v 2) (aa_cons (ae_lc [("_law_row", 5)] sc_law_table.nd (ai_list (K := K) (ae_ix (K := K) (ae_v 0) (ae_int))) (blkOk_by (own := [("_law_row", 5)]) (N := ["_law_machine_here", "_law_most", "_law_lists", "_law_ahead", "_law_one", "_law_row", "_law_goal_here"]) (sc := defScope st_law_table) (by decide +kernel)) (fun _ _ _ _ _ => ag_name 5 (vs := [5]) sc_law_table.nd rfl (.inl rfl)) (fun _ _ _ _ _ => ats_nil) (fun _ _ _ _ _ => ae_callB (ac_sum (K := K)) m_sum (by decide +kernel) (aa_cons (ae_lc [("_law_goal_here", 6)] sc_law_table.nd (ai_list (K := K) (ae_v 5)) (blkOk_by rfl) (fun _ _ _ _ _ => ag_name 6 (vs := [6]) sc_law_table.nd rfl (.inl rfl)) (fun _ _ _ _ _ => ats_one (at_cmp ao_isnot (ae_v 6) (ae_non))) (fun _ _ _ _ _ => ae_ix (K := K) (ae_v 3) (ae_v 6))) (aa_nil)))) (aa_nil)))))))
      (ass_frz 2 (ass_one (as_ret (ae_v 2)))))⟩

abbrev st_law_same : Stmt := topS 13
theorem sc_law_same : FnScope ["_law_got", "_law_due", "_law_one", "_law_other"] ["_law_got", "_law_due"] (defScope st_law_same) := ⟨rfl, rfl, rfl, by decide +kernel, rfl, by decide +kernel, by decide +kernel⟩
theorem ok_law_same {P : Program} {w : World} {K : PySem.W.Frag} {mg : Str → Option Value} {base : Heap} {f : Addr} {fd : FuncData} (F : L2.Fun K "_law_same" "_law_same" st_law_same f fd) (hm : mg "_law_same" = some (.ref f)) (hb : Binds K fd ["_law_got", "_law_due"] []) (m_all : mg "all" = none) (m_bool : mg "bool" = none) (m_int : mg "int" = none) (m_isinstance : mg "isinstance" = none) (m_len : mg "len" = none) (m_list : mg "list" = none) (m_repr : mg "repr" = none) (m_str : mg "str" = none) (m_tuple : mg "tuple" = none) (m_zip : mg "zip" = none) : ∀ d, Cal P w K mg base (1 + d) "_law_same" 2 (s_law_same d)
  | 0 => by
    refine calA (b := aNoS) F sc_law_same rfl hm hb ?_ (fun _ _ _ _ h => h.elim)
    intro cdv A outer s H E hr
    exact ⟨_, ass_no⟩
  | d + 1 => by
    have c_law_same := ok_law_same (P := P) (w := w) (base := base) F hm hb m_all m_bool m_int m_isinstance m_len m_list m_repr m_str m_tuple m_zip d
    refine calA (b := a_law_same (s_law_same d)) F sc_law_same rfl hm hb ?_ (fun _ _ _ _ h => h)
    intro cdv A outer s H E hr
    exact ⟨_, ass_cons (as_if (at_tru (K := K) (ae_isi2 (K := K) (ae_v 1) m_isinstance m_list m_tuple (by decide +kernel) (by decide +kernel)))
      (ass_cons (as_if (aw_t (aw_or (at_not (at_tru (K := K) (ae_isi2 (K := K) (ae_v 0) m_isinstance m_list m_tuple (by decide +kernel) (by decide +kernel)))) (aw_or1 (at_cmp (ao_ne (K := K) hr.units) (ae_isi (K := K) (ae_v 0) m_isinstance m_list (by decide +kernel)) (ae_isi (K := K) (ae_v 1) m_isinstance m_list (by decide +kernel))))))
      (ass_one (as_ret (ae_bl)))
      (ass_nil))
      (ass_one (as_ret (ae_and (K := K) (ae_cmp (ao_eq (K := K) hr.units) (ae_callB (ac_len (K := K)) m_len (by decide +kernel) (aa_cons (ae_v 0) (aa_nil))) (ae_callB (ac_len (K := K)) m_len (by decide +kernel) (aa_cons (ae_v 1) (aa_nil)))) (ae_one (ae_callB (ac_all (K := K)) m_all (by decide +kernel) (aa_cons (ae_lc [("_law_one", 2), ("_law_other", 3)] sc_law_same.nd (ai_zip (K := K) m_zip (aa_cons (ae_v 0) (aa_cons (ae_v 1) (aa_nil)))) (blkOk_by (own := [("_law_one", 2), ("_law_other", 3)]) (N := ["_law_got", "_law_due", "_law_one", "_law_other"]) (sc := defScope st_law_same) (by decide +kernel)) (fun _ _ _ _ _ => ag_tup (K := K) (ags_cons (ag_name 2 (vs := [2, 3]) sc_law_same.nd rfl (.inl rfl)) (ags_cons (ag_name 3 (vs := [2, 3]) sc_law_same.nd rfl (.inl rfl)) (ags_nil)))) (fun _ _ _ _ _ => ats_nil) (fun _ _ _ _ _ => ae_call (K := K) (hk := by first | exact Nat.le_refl _ | exact Nat.le_trans (by decide) (Nat.le_add_right 1 d)) c_law_same hr (aa_cons (ae_v 2) (aa_cons (ae_v 3) (aa_nil))))) (aa_nil))))))))
      (ass_nil))
      (ass_cons (as_if (aw_t (aw_or (at_cmp ao_is (ae_v 1) (ae_non)) (aw_or1 (at_tru (K := K) (ae_isi2 (K := K) (ae_v 1) m_isinstance m_bool m_str (by decide +kernel) (by decide +kernel))))))
      (ass_one (as_ret (ae_cmp (ao_eq (K := K) hr.units) (ae_no) (ae_no))))
      (ass_nil))
      (ass_one (as_ret (ae_and (K := K) (ae_isi (K := K) (ae_v 0) m_isinstance m_int (by decide +kernel)) (ae_and (K := K) (ae_not (K := K) (ae_isi (K := K) (ae_v 0) m_isinstance m_bool (by decide +kernel))) (ae_one (ae_cmp (ao_eq (K := K) hr.units) (ae_v 0) (ae_v 1))))))))⟩

abbrev st_table : Stmt := topS 3
theorem sc_table : FnScope ["machine", "most", "found"] ["machine", "most"] (defScope st_table) := ⟨rfl, rfl, rfl, by decide +kernel, rfl, by decide +kernel, by decide +kernel⟩
theorem ok_table {P : Program} {w : World} {K : PySem.W.Frag} {mg : Str → Option Value} {base : Heap} {f : Addr} {fd : FuncData} (F : L2.Fun K "table" "table" st_table f fd) (hm : mg "table" = some (.ref f)) (hb : Binds K fd ["machine", "most"] []) (m_len : mg "len" = none) (c_first_list : Cal P w K mg base 1 "first_list" 1 s_first_list) (c_list_behind : Cal P w K mg base 1 "list_behind" 2 s_list_behind) : Cal P w K mg base 2 "table" 2 s_table := by
  refine calA (b := a_table) F sc_table rfl hm hb ?_ (fun _ _ _ _ h => h)
  intro cdv A outer s H E hr
  exact ⟨_, ass_cons (as_set 2 sc_table.nd (ae_lstM (aa_cons (ae_call (K := K) c_first_list hr (aa_cons (ae_v 0) (aa_nil))) (aa_nil))) rfl (.inl rfl))
      (ass_cons (as_while (at_cmp ao_le (ae_callB (ac_len (K := K)) m_len (by decide +kernel) (aa_cons (ae_v 2) (aa_nil))) (ae_v 1))
      (ass_one (as_expr (ae_meth (K := K) PySem.F.plainAttrs_list PySem.F.slot_list_append PySem.F.type_list_append am_append (ae_v 2) (aa_cons (ae_call (K := K) c_list_behind hr (aa_cons (ae_v 0) (aa_cons (ae_ix (K := K) (ae_v 2) (ae_neg (ae_int))) (aa_nil)))) (aa_nil))))))
      (ass_frz 2 (ass_one (as_ret (ae_v 2)))))⟩

abbrev st_law_take : Stmt := topS 8
theorem sc_law_take : FnScope ["_law_pen_here", "_law_most", "_law_k", "_law_script", "_law_cell", "_law_got"] ["_law_pen_here", "_law_most"] (defScope st_law_take) := ⟨rfl, rfl, rfl, by decide +kernel, rfl, by decide +kernel, by decide +kernel⟩
theorem ok_law_take {P : Program} {w : World} {K : PySem.W.Frag} {mg : Str → Option Value} {base : Heap} {f : Addr} {fd : FuncData} (F : L2.Fun K "_law_take" "_law_take" st_law_take f fd) (hm : mg "_law_take" = some (.ref f)) (hb : Binds K fd ["_law_pen_here", "_law_most"] []) (m_abs : mg "abs" = none) (m_len : mg "len" = none) (c_law_mixed : Cal P w K mg base 1 "_law_mixed" 2 s_law_mixed) : Cal P w K mg base 2 "_law_take" 2 s_law_take := by
  refine calA (b := a_law_take) F sc_law_take rfl hm hb ?_ (fun _ _ _ _ h => h)
  intro cdv A outer s H E hr
  exact ⟨_, ass_cons (as_set 2 sc_law_take.nd (ae_getK (hu_of hr) (ae_v 0) (ae_str)) rfl (.inl rfl))
      (ass_cons (as_set 3 sc_law_take.nd (ae_getK (hu_of hr) (ae_v 0) (ae_str)) rfl (.inl rfl))
      (ass_cons (as_if (at_cmp (ao_eq (K := K) hr.units) (ae_getK (hu_of hr) (ae_v 0) (ae_str)) (ae_int))
      (ass_cons (as_putK (hu_of hr) (ae_v 0) (ae_str) (ae_op (ao_add (K := K)) (ae_v 2) (ae_int)))
      (ass_cons (as_set 4 sc_law_take.nd (ae_int) rfl (.inl rfl))
      (ass_cons (as_if (at_cmp ao_gt (ae_callB (ac_len (K := K)) m_len (by decide +kernel) (aa_cons (ae_v 3) (aa_nil))) (ae_int))
      (ass_one (as_set 4 sc_law_take.nd (ae_ix (K := K) (ae_v 3) (ae_op ao_mod (ae_v 2) (ae_callB (ac_len (K := K)) m_len (by decide +kernel) (aa_cons (ae_v 3) (aa_nil))))) rfl (.inl rfl)))
      (ass_nil))
      (ass_cons (as_if (aw_t (aw_or (at_cmp ao_ge (ae_v 2) (ae_callB (ac_len (K := K)) m_len (by decide +kernel) (aa_cons (ae_v 3) (aa_nil)))) (aw_or1 (at_cmp ao_lt (ae_callB ac_abs m_abs (by decide +kernel) (aa_cons (ae_v 4) (aa_nil))) (ae_op ao_pow (ae_int) (ae_int))))))
      (ass_one (as_ret (ae_op ao_mod (ae_call (K := K) c_law_mixed hr (aa_cons (ae_v 4) (aa_cons (ae_v 2) (aa_nil)))) (ae_v 1))))
      (ass_nil))
      (ass_one (as_putK (hu_of hr) (ae_v 0) (ae_str) (ae_callB ac_abs m_abs (by decide +kernel) (aa_cons (ae_v 4) (aa_nil)))))))))
      (ass_nil))
      (ass_cons (as_set 5 sc_law_take.nd (ae_op ao_mod (ae_getK (hu_of hr) (ae_v 0) (ae_str)) (ae_v 1)) rfl (.inl rfl))
      (ass_cons (as_putK (hu_of hr) (ae_v 0) (ae_str) (ae_op ao_div (ae_getK (hu_of hr) (ae_v 0) (ae_str)) (ae_v 1)))
      (ass_one (as_ret (ae_v 5)))))))⟩

abbrev st_counts : Stmt := topS 4
theorem sc_counts : FnScope ["machine", "most", "some"] ["machine", "most"] (defScope st_counts) := ⟨rfl, rfl, rfl, by decide +kernel, rfl, by decide +kernel, by decide +kernel⟩
theorem ok_counts {P : Program} {w : World} {K : PySem.W.Frag} {mg : Str → Option Value} {base : Heap} {f : Addr} {fd : FuncData} (F : L2.Fun K "counts" "counts" st_counts f fd) (hm : mg "counts" = some (.ref f)) (hb : Binds K fd ["machine", "most"] []) (c_table : Cal P w K mg base 2 "table" 2 s_table) : Cal P w K mg base 3 "counts" 2 s_counts := by
  refine calA (b := a_counts) F sc_counts rfl hm hb ?_ (fun _ _ _ _ h => h)
  intro cdv A outer s H E hr
  exact ⟨_, ass_one (as_ret (ae_lcM [("some", 2)] sc_counts.nd (ai_list (K := K) (ae_call (K := K) c_table hr (aa_cons (ae_v 0) (aa_cons (ae_v 1) (aa_nil))))) (blkOk_by (own := [("some", 2)]) (N := ["machine", "most", "some"]) (sc := defScope st_counts) (by decide +kernel)) (fun _ _ _ _ _ => ag_name 2 (vs := [2]) sc_counts.nd rfl (.inl rfl)) (fun _ _ _ _ _ => ats_nil) (fun _ _ _ _ _ => ae_ix (K := K) (ae_v 2) (ae_int))))⟩

abbrev st_law_signs : Stmt := topS 9
theorem sc_law_signs : FnScope ["_law_pen_here"] ["_law_pen_here"] (defScope st_law_signs) := ⟨rfl, rfl, rfl, by decide +kernel, rfl, by decide +kernel, by decide +kernel⟩
theorem ok_law_signs {P : Program} {w : World} {K : PySem.W.Frag} {mg : Str → Option Value} {base : Heap} {f : Addr} {fd : FuncData} (F : L2.Fun K "_law_signs" "_law_signs" st_law_signs f fd) (hm : mg "_law_signs" = some (.ref f)) (hb : Binds K fd ["_law_pen_here"] []) (c_law_take : Cal P w K mg base 2 "_law_take" 2 s_law_take) : Cal P w K mg base 3 "_law_signs" 1 s_law_signs := by
  refine calA (b := a_law_signs) F sc_law_signs rfl hm hb ?_ (fun _ _ _ _ h => h)
  intro cdv A outer s H E hr
  exact ⟨_, ass_one (as_ret (ae_ix (K := K) (ae_lst (aa_cons (ae_int) (aa_cons (ae_int) (aa_cons (ae_int) (aa_cons (ae_int) (aa_cons (ae_int) (aa_cons (ae_int) (aa_cons (ae_int) (aa_cons (ae_op (ao_add (K := K)) (ae_int) (ae_call (K := K) c_law_take hr (aa_cons (ae_v 0) (aa_cons (ae_int) (aa_nil))))) (aa_nil)))))))))) (ae_call (K := K) c_law_take hr (aa_cons (ae_v 0) (aa_cons (ae_int) (aa_nil))))))⟩

abbrev st_law_goal : Stmt := topS 10
theorem sc_law_goal : FnScope ["_law_pen_here", "_law_stand", "_law_stands", "_law_way", "_law_goal_here"] ["_law_pen_here", "_law_stand", "_law_stands", "_law_way"] (defScope st_law_goal) := ⟨rfl, rfl, rfl, by decide +kernel, rfl, by decide +kernel, by decide +kernel⟩
theorem ok_law_goal {P : Program} {w : World} {K : PySem.W.Frag} {mg : Str → Option Value} {base : Heap} {f : Addr} {fd : FuncData} (F : L2.Fun K "_law_goal" "_law_goal" st_law_goal f fd) (hm : mg "_law_goal" = some (.ref f)) (hb : Binds K fd ["_law_pen_here", "_law_stand", "_law_stands", "_law_way"] []) (c_law_take : Cal P w K mg base 2 "_law_take" 2 s_law_take) : Cal P w K mg base 3 "_law_goal" 4 s_law_goal := by
  refine calA (b := a_law_goal) F sc_law_goal rfl hm hb ?_ (fun _ _ _ _ h => h)
  intro cdv A outer s H E hr
  exact ⟨_, ass_cons (as_set 4 sc_law_goal.nd (ae_call (K := K) c_law_take hr (aa_cons (ae_v 0) (aa_cons (ae_op (ao_add (K := K)) (ae_v 2) (ae_int)) (aa_nil)))) rfl (.inl rfl))
      (ass_cons (as_if (aw_t (aw_or (at_cmp (ao_eq (K := K) hr.units) (ae_v 4) (ae_v 2)) (aw_or1 (aw_t (aw_and (at_cmp (ao_eq (K := K) hr.units) (ae_v 3) (ae_int)) (aw_and1 (at_cmp ao_le (ae_v 4) (ae_v 1))))))))
      (ass_one (as_ret (ae_non)))
      (ass_nil))
      (ass_one (as_ret (ae_v 4))))⟩

abbrev st_law_machine : Stmt := topS 11
theorem sc_law_machine : FnScope ["_law_pen_here", "_law_signs_here", "_law_most", "_law_stands", "_law_way", "_law_fence", "_law_ends", "_law_goes", "_law_stand", "_law_row", "_law_number", "_law_goal_here"] ["_law_pen_here", "_law_signs_here", "_law_most"] (defScope st_law_machine) := ⟨rfl, rfl, rfl, by decide +kernel, rfl, by decide +kernel, by decide +kernel⟩
theorem ok_law_machine {P : Program} {w : World} {K : PySem.W.Frag} {mg : Str → Option Value} {base : Heap} {f : Addr} {fd : FuncData} (F : L2.Fun K "_law_machine" "_law_machine" st_law_machine f fd) (hm : mg "_law_machine" = some (.ref f)) (hb : Binds K fd ["_law_pen_here", "_law_signs_here", "_law_most"] []) (m_int : mg "int" = none) (m_range : mg "range" = none) (c_law_take : Cal P w K mg base 2 "_law_take" 2 s_law_take) (c_law_goal : Cal P w K mg base 3 "_law_goal" 4 s_law_goal) : Cal P w K mg base 4 "_law_machine" 3 s_law_machine := by
  refine calA (b := a_law_machine) F sc_law_machine rfl hm hb ?_ (fun _ _ _ _ h => h)
  intro cdv A outer s H E hr
  exact ⟨_, ass_cons (as_set 3 sc_law_machine.nd (ae_op (ao_add (K := K)) (ae_int) (ae_call (K := K) c_law_take hr (aa_cons (ae_v 0) (aa_cons (ae_v 2) (aa_nil))))) rfl (.inr rfl))
      (ass_cons (as_set 4 sc_law_machine.nd (ae_call (K := K) c_law_take hr (aa_cons (ae_v 0) (aa_cons (ae_int) (aa_nil)))) rfl (.inr rfl))
      (ass_cons (as_set 5 sc_law_machine.nd (ae_op (ao_add (K := K)) (ae_int) (ae_call (K := K) c_law_take hr (aa_cons (ae_v 0) (aa_cons (ae_v 3) (aa_nil))))) rfl (.inr rfl))
      (ass_cons (as_set 6 sc_law_machine.nd (ae_lstM (aa_nil)) rfl (.inl rfl))
      (ass_cons (as_set 7 sc_law_machine.nd (ae_lstM (aa_nil)) rfl (.inl rfl))
      (ass_cons (as_for (ai_range1 m_range (aa_cons (ae_v 3) (aa_nil))) (ag_name 8 (vs := [8]) sc_law_machine.nd rfl (.inr rfl))
      (ass_cons (as_expr (ae_meth (K := K) PySem.F.plainAttrs_list PySem.F.slot_list_append PySem.F.type_list_append am_append (ae_v 6) (aa_cons (ae_cmp (ao_eq (K := K) hr.units) (ae_call (K := K) c_law_take hr (aa_cons (ae_v 0) (aa_cons (ae_int) (aa_nil)))) (ae_int)) (aa_nil))))
      (ass_cons (as_setLc 9 [("_law_number", 10)] sc_law_machine.nd (ai_range1 m_range (aa_cons (ae_v 1) (aa_nil))) (sw_true rfl rfl rfl (by decide +kernel)) (blkOk_by (own := [("_law_number", 10)]) (N := ["_law_pen_here", "_law_signs_here", "_law_most", "_law_stands", "_law_way", "_law_fence", "_law_ends", "_law_goes", "_law_stand", "_law_row", "_law_number", "_law_goal_here"]) (sc := defScope st_law_machine) (by decide +kernel)) (fun _ _ _ _ _ => ag_name 10 (vs := [10]) sc_law_machine.nd rfl (.inl rfl)) (fun _ _ _ _ _ => ats_nil) (fun _ _ _ _ _ => ae_call (K := K) c_law_goal hr (aa_cons (ae_v 0) (aa_cons (ae_v 8) (aa_cons (ae_v 3) (aa_cons (ae_v 4) (aa_nil)))))))
      (ass_cons (as_if (aw_t (aw_and (at_cmp (ao_eq (K := K) hr.units) (ae_v 4) (ae_int)) (aw_and1 (at_cmp ao_lt (ae_v 8) (ae_v 5)))))
      (ass_cons (as_setL (ae_bl) (ae_v 6) (ae_v 8))
      (ass_one (as_setLc 9 [("_law_goal_here", 11)] sc_law_machine.nd (ai_list (K := K) (ae_v 9)) (sw_true rfl rfl rfl (by decide +kernel)) (blkOk_by (own := [("_law_goal_here", 11)]) (N := ["_law_pen_here", "_law_signs_here", "_law_most", "_law_stands", "_law_way", "_law_fence", "_law_ends", "_law_goes", "_law_stand", "_law_row", "_law_number", "_law_goal_here"]) (sc := defScope st_law_machine) (by decide +kernel)) (fun _ _ _ _ _ => ag_name 11 (vs := [11]) sc_law_machine.nd rfl (.inl rfl)) (fun _ _ _ _ _ => ats_nil) (fun _ _ _ _ _ => ae_ix (K := K) (ae_lst (aa_cons (ae_v 11) (aa_cons (ae_non) (aa_nil)))) (ae_callT ac_int m_int (by decide +kernel) (aa_cons (ae_or (K := K) (ae_cmp ao_is (ae_v 11) (ae_non)) (ae_one (ae_cmp ao_ge (ae_v 11) (ae_v 5)))) (aa_nil)))))))
      (ass_nil))
      (ass_one (as_expr (ae_meth (K := K) PySem.F.plainAttrs_list PySem.F.slot_list_append PySem.F.type_list_append am_append (ae_v 7) (aa_cons (ae_v 9) (aa_nil)))))))))
      (ass_frz 6 (ass_frz 7 (ass_one (as_ret (ae_tup (aa_cons (ae_v 6) (aa_cons (ae_v 7) (aa_nil)))))))))))))⟩

abbrev st_law_right : Stmt := topS 14
theorem sc_law_right : FnScope ["_law_machine_here", "_law_most", "_law_due", "_law_handed", "_law_again", "_law_got", "_law_numbers", "_law_row", "_law_some"] ["_law_machine_here", "_law_most"] (defScope st_law_right) := ⟨rfl, rfl, rfl, by decide +kernel, rfl, by decide +kernel, by decide +kernel⟩
theorem ok_law_right {P : Program} {w : World} {K : PySem.W.Frag} {mg : Str → Option Value} {base : Heap} {f : Addr} {fd : FuncData} (F : L2.Fun K "_law_right" "_law_right" st_law_right f fd) (hm : mg "_law_right" = some (.ref f)) (hb : Binds K fd ["_law_machine_here", "_law_most"] []) (m_list : mg "list" = none) (m_range : mg "range" = none) (c_law_table : Cal P w K mg base 1 "_law_table" 2 s_law_table) (c_law_same : Cal P w K mg base 5 "_law_same" 2 (s_law_same 4)) (c_table : Cal P w K mg base 2 "table" 2 s_table) (c_counts : Cal P w K mg base 3 "counts" 2 s_counts) : Cal P w K mg base 6 "_law_right" 2 s_law_right := by
  refine calA (b := a_law_right) F sc_law_right rfl hm hb ?_ (fun _ _ _ _ h => h)
  intro cdv A outer s H E hr
  exact ⟨_, ass_cons (as_set 2 sc_law_right.nd (ae_call (K := K) c_law_table hr (aa_cons (ae_v 0) (aa_cons (ae_v 1) (aa_nil)))) rfl (.inl rfl))
      (ass_cons (as_set 3 sc_law_right.nd (ae_tup (aa_cons (ae_callT (ac_list (K := K)) m_list (by decide +kernel) (aa_cons (ae_ix (K := K) (ae_v 0) (ae_int)) (aa_nil))) (aa_cons (ae_lc [("_law_row", 7)] sc_law_right.nd (ai_list (K := K) (ae_ix (K := K) (ae_v 0) (ae_int))) (blkOk_by (own := [("_law_row", 7)]) (N := ["_law_machine_here", "_law_most", "_law_due", "_law_handed", "_law_again", "_law_got", "_law_numbers", "_law_row", "_law_some"]) (sc := defScope st_law_right) (by decide +kernel)) (fun _ _ _ _ _ => ag_name 7 (vs := [7]) sc_law_right.nd rfl (.inl rfl)) (fun _ _ _ _ _ => ats_nil) (fun _ _ _ _ _ => ae_callT (ac_list (K := K)) m_list (by decide +kernel) (aa_cons (ae_v 7) (aa_nil)))) (aa_nil)))) rfl (.inl rfl))
      (ass_cons (as_for (ai_range1 m_range (aa_cons (ae_int) (aa_nil))) (ag_name 4 (vs := [4]) sc_law_right.nd rfl (.inl rfl))
      (ass_cons (as_set 5 sc_law_right.nd (ae_call (K := K) c_table hr (aa_cons (ae_v 3) (aa_cons (ae_v 1) (aa_nil)))) rfl (.inl rfl))
      (ass_cons (as_set 6 sc_law_right.nd (ae_call (K := K) c_counts hr (aa_cons (ae_v 3) (aa_cons (ae_v 1) (aa_nil)))) rfl (.inl rfl))
      (ass_cons (as_if (aw_t (aw_or (at_not (at_tru (K := K) (ae_call (K := K) c_law_same hr (aa_cons (ae_v 5) (aa_cons (ae_v 2) (aa_nil)))))) (aw_or1 (at_not (at_tru (K := K) (ae_call (K := K) c_law_same hr (aa_cons (ae_v 6) (aa_cons (ae_lc [("_law_some", 8)] sc_law_right.nd (ai_list (K := K) (ae_v 2)) (blkOk_by (own := [("_law_some", 8)]) (N := ["_law_machine_here", "_law_most", "_law_due", "_law_handed", "_law_again", "_law_got", "_law_numbers", "_law_row", "_law_some"]) (sc := defScope st_law_right) (by decide +kernel)) (fun _ _ _ _ _ => ag_name 8 (vs := [8]) sc_law_right.nd rfl (.inl rfl)) (fun _ _ _ _ _ => ats_nil) (fun _ _ _ _ _ => ae_ix (K := K) (ae_v 8) (ae_int))) (aa_nil)))))))))
      (ass_one (as_ret (ae_bl)))
      (ass_nil))
      (ass_cons (as_expr (ae_meth (K := K) PySem.F.plainAttrs_list PySem.F.slot_list_append PySem.F.type_list_append am_append (ae_ix (K := K) (ae_v 5) (ae_int)) (aa_cons (ae_int) (aa_nil))))
      (ass_cons (as_expr (ae_meth0 (K := K) PySem.F.plainAttrs_list PySem.F.slot_list_clear PySem.F.type_list_clear am_clear (ae_ix (K := K) (ae_v 5) (ae_neg (ae_int)))))
      (ass_cons (as_expr (ae_meth0 (K := K) PySem.F.plainAttrs_list PySem.F.slot_list_reverse PySem.F.type_list_reverse am_reverse (ae_v 6)))
      (ass_one (as_expr (ae_meth (K := K) PySem.F.plainAttrs_list PySem.F.slot_list_append PySem.F.type_list_append am_append (ae_v 6) (aa_cons (ae_int) (aa_nil))))))))))))
      (ass_one (as_ret (ae_cmp (ao_eq (K := K) hr.units) (ae_v 3) (ae_v 0))))))⟩

abbrev st_law : Stmt := topS 15
theorem sc_law : FnScope ["_law_script", "_law_machines", "_law_first", "_law_pen_here", "_law_great", "_law_signs_here", "_law_most", "_law_machine_here"] ["_law_script"] (defScope st_law) := ⟨rfl, rfl, rfl, by decide +kernel, rfl, by decide +kernel, by decide +kernel⟩
theorem okF_law {P : Program} {w : World} {K : PySem.W.Frag} {mg : Str → Option Value} {base : Heap} {f : Addr} {fd : FuncData} (F : L2.Fun K "law" "law" st_law f fd) (m_int : mg "int" = none) (c_law_pen : Cal P w K mg base 1 "_law_pen" 2 s_law_pen) (c_law_take : Cal P w K mg base 2 "_law_take" 2 s_law_take) (c_law_signs : Cal P w K mg base 3 "_law_signs" 1 s_law_signs) (c_law_machine : Cal P w K mg base 4 "_law_machine" 3 s_law_machine) (c_law_right : Cal P w K mg base 6 "_law_right" 2 s_law_right) : FnOk P w K mg base CX0 7 f fd ["_law_script"] (spOf K 1 s_law) := by
  refine fnA (b := a_law) F sc_law ?_ (fun _ _ _ _ h => h)
  intro cdv A outer s H E hr
  exact ⟨_, ass_cons (as_set 1 sc_law.nd (ae_lstM (aa_nil)) rfl (.inl rfl))
      (ass_cons (as_for (ai_tup (K := K) (ae_tup (aa_cons (ae_int) (aa_cons (ae_int) (aa_nil))))) (ag_name 2 (vs := [2]) sc_law.nd rfl (.inl rfl))
      (ass_cons (as_set 3 sc_law.nd (ae_call (K := K) c_law_pen hr (aa_cons (ae_v 0) (aa_cons (ae_v 2) (aa_nil)))) rfl (.inl rfl))
      (ass_cons (as_set 4 sc_law.nd (ae_cmp (ao_eq (K := K) hr.units) (ae_call (K := K) c_law_take hr (aa_cons (ae_v 3) (aa_cons (ae_int) (aa_nil)))) (ae_int)) rfl (.inl rfl))
      (ass_cons (as_set 5 sc_law.nd (ae_call (K := K) c_law_signs hr (aa_cons (ae_v 3) (aa_nil))) rfl (.inl rfl))
      (ass_one (as_expr (ae_meth (K := K) PySem.F.plainAttrs_list PySem.F.slot_list_append PySem.F.type_list_append am_append (ae_v 1) (aa_cons (ae_call (K := K) c_law_machine hr (aa_cons (ae_v 3) (aa_cons (ae_v 5) (aa_cons (ae_ix (K := K) (ae_lst (aa_cons (ae_int) (aa_cons (ae_int) (aa_nil)))) (ae_callT ac_int m_int (by decide +kernel) (aa_cons (ae_v 4) (aa_nil)))) (aa_nil))))) (aa_nil)))))))))
      (ass_frz 1 (ass_cons (as_set 3 sc_law.nd (ae_call (K := K) c_law_pen hr (aa_cons (ae_v 0) (aa_cons (ae_int) (aa_nil)))) rfl (.inl rfl))
      (ass_cons (as_set 6 sc_law.nd (ae_call (K := K) c_law_take hr (aa_cons (ae_v 3) (aa_cons (ae_int) (aa_nil)))) rfl (.inl rfl))
      (ass_cons (as_if (at_cmp (ao_eq (K := K) hr.units) (ae_call (K := K) c_law_take hr (aa_cons (ae_v 3) (aa_cons (ae_int) (aa_nil)))) (ae_int))
      (ass_one (as_set 6 sc_law.nd (ae_op ao_sub (ae_int) (ae_call (K := K) c_law_take hr (aa_cons (ae_v 3) (aa_cons (ae_int) (aa_nil))))) rfl (.inl rfl)))
      (ass_nil))
      (ass_cons (as_for (ai_list (K := K) (ae_op (ao_add (K := K)) (ae_v 1) (ae_v 1))) (ag_name 7 (vs := [7]) sc_law.nd rfl (.inl rfl))
      (ass_one (as_if (at_not (at_tru (K := K) (ae_call (K := K) c_law_right hr (aa_cons (ae_v 7) (aa_cons (ae_v 6) (aa_nil))))))
      (ass_one (as_ret (ae_bl)))
      (ass_nil))))
      (ass_one (as_ret (ae_bl)))))))))⟩

theorem all_mk {l : PySem.W.OpenLaw} {w : World} {K : PySem.W.Frag} {h : Heap} {mg : Str → Option Value} {fa f1 f2 f3 f4 f5 f6 f7 f8 f9 f10 f11 f12 f13 f14 : Addr} (X : K.In h) (G : h.Ns mainGlobals mg) (hfa : mg "law" = some (.ref fa))
    {od1 an1 od2 an2 od3 an3 od4 an4 od5 an5 od6 an6 od7 an7 od8 an8 od9 an9 od10 an10 od11 an11 od12 an12 od13 an13 od14 an14 : Option Addr} {sl1 sl2 sl3 sl4 sl5 sl6 sl7 sl8 sl9 sl10 sl11 sl12 sl13 sl14 : Array (Option Value)} {oc1 kV1 dc1 pm1 cd1 ct1 oc2 kV2 dc2 pm2 cd2 ct2 oc3 kV3 dc3 pm3 cd3 ct3 oc4 kV4 dc4 pm4 cd4 ct4 oc5 kV5 dc5 pm5 cd5 ct5 oc6 kV6 dc6 pm6 cd6 ct6 oc7 kV7 dc7 pm7 cd7 ct7 oc8 kV8 dc8 pm8 cd8 ct8 oc9 kV9 dc9 pm9 cd9 ct9 oc10 kV10 dc10 pm10 cd10 ct10 oc11 kV11 dc11 pm11 cd11 ct11 oc12 kV12 dc12 pm12 cd12 ct12 oc13 kV13 dc13 pm13 cd13 ct13 oc14 kV14 dc14 pm14 cd14 ct14 : Value}
    (a1 : PySem.W.nsIn K mainGlobals "first_list" = some (some (.ref f1))) (l1 : K.lookup f1 = some ⟨oc1, od1, .func (PySem.W.fnOf "first_list" "first_list" (defArgs st_first_list) (defBody st_first_list) (defScope st_first_list) .none kV1 dc1 pm1 an1 cd1 ct1), sl1⟩) (c1 : PySem.W.codeIn K cd1 "first_list" = true) (k1 : PySem.W.keepIn K (.ref f1) = true)
    (a2 : PySem.W.nsIn K mainGlobals "list_behind" = some (some (.ref f2))) (l2 : K.lookup f2 = some ⟨oc2, od2, .func (PySem.W.fnOf "list_behind" "list_behind" (defArgs st_list_behind) (defBody st_list_behind) (defScope st_list_behind) .none kV2 dc2 pm2 an2 cd2 ct2), sl2⟩) (c2 : PySem.W.codeIn K cd2 "list_behind" = true) (k2 : PySem.W.keepIn K (.ref f2) = true)
    (a3 : PySem.W.nsIn K mainGlobals "_law_pen" = some (some (.ref f3))) (l3 : K.lookup f3 = some ⟨oc3, od3, .func (PySem.W.fnOf "_law_pen" "_law_pen" (defArgs st_law_pen) (defBody st_law_pen) (defScope st_law_pen) .none kV3 dc3 pm3 an3 cd3 ct3), sl3⟩) (c3 : PySem.W.codeIn K cd3 "_law_pen" = true) (k3 : PySem.W.keepIn K (.ref f3) = true)
    (a4 : PySem.W.nsIn K mainGlobals "_law_mixed" = some (some (.ref f4))) (l4 : K.lookup f4 = some ⟨oc4, od4, .func (PySem.W.fnOf "_law_mixed" "_law_mixed" (defArgs st_law_mixed) (defBody st_law_mixed) (defScope st_law_mixed) .none kV4 dc4 pm4 an4 cd4 ct4), sl4⟩) (c4 : PySem.W.codeIn K cd4 "_law_mixed" = true) (k4 : PySem.W.keepIn K (.ref f4) = true)
    (a5 : PySem.W.nsIn K mainGlobals "_law_table" = some (some (.ref f5))) (l5 : K.lookup f5 = some ⟨oc5, od5, .func (PySem.W.fnOf "_law_table" "_law_table" (defArgs st_law_table) (defBody st_law_table) (defScope st_law_table) .none kV5 dc5 pm5 an5 cd5 ct5), sl5⟩) (c5 : PySem.W.codeIn K cd5 "_law_table" = true) (k5 : PySem.W.keepIn K (.ref f5) = true)
    (a6 : PySem.W.nsIn K mainGlobals "_law_same" = some (some (.ref f6))) (l6 : K.lookup f6 = some ⟨oc6, od6, .func (PySem.W.fnOf "_law_same" "_law_same" (defArgs st_law_same) (defBody st_law_same) (defScope st_law_same) .none kV6 dc6 pm6 an6 cd6 ct6), sl6⟩) (c6 : PySem.W.codeIn K cd6 "_law_same" = true) (k6 : PySem.W.keepIn K (.ref f6) = true)
    (a7 : PySem.W.nsIn K mainGlobals "table" = some (some (.ref f7))) (l7 : K.lookup f7 = some ⟨oc7, od7, .func (PySem.W.fnOf "table" "table" (defArgs st_table) (defBody st_table) (defScope st_table) .none kV7 dc7 pm7 an7 cd7 ct7), sl7⟩) (c7 : PySem.W.codeIn K cd7 "table" = true) (k7 : PySem.W.keepIn K (.ref f7) = true)
    (a8 : PySem.W.nsIn K mainGlobals "_law_take" = some (some (.ref f8))) (l8 : K.lookup f8 = some ⟨oc8, od8, .func (PySem.W.fnOf "_law_take" "_law_take" (defArgs st_law_take) (defBody st_law_take) (defScope st_law_take) .none kV8 dc8 pm8 an8 cd8 ct8), sl8⟩) (c8 : PySem.W.codeIn K cd8 "_law_take" = true) (k8 : PySem.W.keepIn K (.ref f8) = true)
    (a9 : PySem.W.nsIn K mainGlobals "counts" = some (some (.ref f9))) (l9 : K.lookup f9 = some ⟨oc9, od9, .func (PySem.W.fnOf "counts" "counts" (defArgs st_counts) (defBody st_counts) (defScope st_counts) .none kV9 dc9 pm9 an9 cd9 ct9), sl9⟩) (c9 : PySem.W.codeIn K cd9 "counts" = true) (k9 : PySem.W.keepIn K (.ref f9) = true)
    (a10 : PySem.W.nsIn K mainGlobals "_law_signs" = some (some (.ref f10))) (l10 : K.lookup f10 = some ⟨oc10, od10, .func (PySem.W.fnOf "_law_signs" "_law_signs" (defArgs st_law_signs) (defBody st_law_signs) (defScope st_law_signs) .none kV10 dc10 pm10 an10 cd10 ct10), sl10⟩) (c10 : PySem.W.codeIn K cd10 "_law_signs" = true) (k10 : PySem.W.keepIn K (.ref f10) = true)
    (a11 : PySem.W.nsIn K mainGlobals "_law_goal" = some (some (.ref f11))) (l11 : K.lookup f11 = some ⟨oc11, od11, .func (PySem.W.fnOf "_law_goal" "_law_goal" (defArgs st_law_goal) (defBody st_law_goal) (defScope st_law_goal) .none kV11 dc11 pm11 an11 cd11 ct11), sl11⟩) (c11 : PySem.W.codeIn K cd11 "_law_goal" = true) (k11 : PySem.W.keepIn K (.ref f11) = true)
    (a12 : PySem.W.nsIn K mainGlobals "_law_machine" = some (some (.ref f12))) (l12 : K.lookup f12 = some ⟨oc12, od12, .func (PySem.W.fnOf "_law_machine" "_law_machine" (defArgs st_law_machine) (defBody st_law_machine) (defScope st_law_machine) .none kV12 dc12 pm12 an12 cd12 ct12), sl12⟩) (c12 : PySem.W.codeIn K cd12 "_law_machine" = true) (k12 : PySem.W.keepIn K (.ref f12) = true)
    (a13 : PySem.W.nsIn K mainGlobals "_law_right" = some (some (.ref f13))) (l13 : K.lookup f13 = some ⟨oc13, od13, .func (PySem.W.fnOf "_law_right" "_law_right" (defArgs st_law_right) (defBody st_law_right) (defScope st_law_right) .none kV13 dc13 pm13 an13 cd13 ct13), sl13⟩) (c13 : PySem.W.codeIn K cd13 "_law_right" = true) (k13 : PySem.W.keepIn K (.ref f13) = true)
    (a14 : PySem.W.nsIn K mainGlobals "law" = some (some (.ref f14))) (l14 : K.lookup f14 = some ⟨oc14, od14, .func (PySem.W.fnOf "law" "law" (defArgs st_law) (defBody st_law) (defScope st_law) .none kV14 dc14 pm14 an14 cd14 ct14), sl14⟩) (c14 : PySem.W.codeIn K cd14 "law" = true) (k14 : PySem.W.keepIn K (.ref f14) = true)
    (z0 : PySem.W.nsIn K mainGlobals "abs" = some none)    (z1 : PySem.W.nsIn K mainGlobals "all" = some none)    (z2 : PySem.W.nsIn K mainGlobals "bool" = some none)    (z3 : PySem.W.nsIn K mainGlobals "int" = some none)    (z4 : PySem.W.nsIn K mainGlobals "isinstance" = some none)    (z5 : PySem.W.nsIn K mainGlobals "len" = some none)    (z6 : PySem.W.nsIn K mainGlobals "list" = some none)    (z7 : PySem.W.nsIn K mainGlobals "range" = some none)    (z8 : PySem.W.nsIn K mainGlobals "repr" = some none)    (z9 : PySem.W.nsIn K mainGlobals "str" = some none)    (z10 : PySem.W.nsIn K mainGlobals "sum" = some none)    (z11 : PySem.W.nsIn K mainGlobals "tuple" = some none)    (z12 : PySem.W.nsIn K mainGlobals "zip" = some none) :
    ∃ fd : FuncData, (∀ (s : Shared) (v : Value), BindsTo s fd ⟨[v], []⟩ [("_law_script", v)]) ∧ ∀ base : Heap, K.In base → base.Ns mainGlobals mg → FnOk l.prog w K mg base CX0 7 fa fd ["_law_script"] (spOf K 1 s_law) := by
  have e := hfa.symm.trans (PySem.W.mg_of X G a14)
  cases e
  have F1 := fun_mk (st := st_first_list) l1 c1 k1
  have b1 := F1.binds (ps := ["machine"]) fun _ _ _ _ _ _ us hl => match us, hl with | [_], _ => rfl
  have F2 := fun_mk (st := st_list_behind) l2 c2 k2
  have b2 := F2.binds (ps := ["machine", "ahead"]) fun _ _ _ _ _ _ us hl => match us, hl with | [_, _], _ => rfl
  have F3 := fun_mk (st := st_law_pen) l3 c3 k3
  have b3 := F3.binds (ps := ["_law_script", "_law_first"]) fun _ _ _ _ _ _ us hl => match us, hl with | [_, _], _ => rfl
  have F4 := fun_mk (st := st_law_mixed) l4 c4 k4
  have b4 := F4.binds (ps := ["_law_cell", "_law_k"]) fun _ _ _ _ _ _ us hl => match us, hl with | [_, _], _ => rfl
  have F5 := fun_mk (st := st_law_table) l5 c5 k5
  have b5 := F5.binds (ps := ["_law_machine_here", "_law_most"]) fun _ _ _ _ _ _ us hl => match us, hl with | [_, _], _ => rfl
  have F6 := fun_mk (st := st_law_same) l6 c6 k6
  have b6 := F6.binds (ps := ["_law_got", "_law_due"]) fun _ _ _ _ _ _ us hl => match us, hl with | [_, _], _ => rfl
  have F7 := fun_mk (st := st_table) l7 c7 k7
  have b7 := F7.binds (ps := ["machine", "most"]) fun _ _ _ _ _ _ us hl => match us, hl with | [_, _], _ => rfl
  have F8 := fun_mk (st := st_law_take) l8 c8 k8
  have b8 := F8.binds (ps := ["_law_pen_here", "_law_most"]) fun _ _ _ _ _ _ us hl => match us, hl with | [_, _], _ => rfl
  have F9 := fun_mk (st := st_counts) l9 c9 k9
  have b9 := F9.binds (ps := ["machine", "most"]) fun _ _ _ _ _ _ us hl => match us, hl with | [_, _], _ => rfl
  have F10 := fun_mk (st := st_law_signs) l10 c10 k10
  have b10 := F10.binds (ps := ["_law_pen_here"]) fun _ _ _ _ _ _ us hl => match us, hl with | [_], _ => rfl
  have F11 := fun_mk (st := st_law_goal) l11 c11 k11
  have b11 := F11.binds (ps := ["_law_pen_here", "_law_stand", "_law_stands", "_law_way"]) fun _ _ _ _ _ _ us hl => match us, hl with | [_, _, _, _], _ => rfl
  have F12 := fun_mk (st := st_law_machine) l12 c12 k12
  have b12 := F12.binds (ps := ["_law_pen_here", "_law_signs_here", "_law_most"]) fun _ _ _ _ _ _ us hl => match us, hl with | [_, _, _], _ => rfl
  have F13 := fun_mk (st := st_law_right) l13 c13 k13
  have b13 := F13.binds (ps := ["_law_machine_here", "_law_most"]) fun _ _ _ _ _ _ us hl => match us, hl with | [_, _], _ => rfl
  have F14 := fun_mk (st := st_law) l14 c14 k14
  have b14 := F14.binds (ps := ["_law_script"]) fun _ _ _ _ _ _ us hl => match us, hl with | [_], _ => rfl
  have m_abs := PySem.W.mg_none_of X G z0
  have m_all := PySem.W.mg_none_of X G z1
  have m_bool := PySem.W.mg_none_of X G z2
  have m_int := PySem.W.mg_none_of X G z3
  have m_isinstance := PySem.W.mg_none_of X G z4
  have m_len := PySem.W.mg_none_of X G z5
  have m_list := PySem.W.mg_none_of X G z6
  have m_range := PySem.W.mg_none_of X G z7
  have m_repr := PySem.W.mg_none_of X G z8
  have m_str := PySem.W.mg_none_of X G z9
  have m_sum := PySem.W.mg_none_of X G z10
  have m_tuple := PySem.W.mg_none_of X G z11
  have m_zip := PySem.W.mg_none_of X G z12
  refine ⟨PySem.W.fnOf "law" "law" (defArgs st_law) (defBody st_law) (defScope st_law) .none kV14 dc14 pm14 an14 cd14 ct14, fun s v => .of_eq rfl, fun base _ _ => ?_⟩
  have c_first_list : Cal l.prog w K mg base 1 "first_list" 1 s_first_list := ok_first_list F1 (PySem.W.mg_of X G a1) b1 m_int
  have c_list_behind : Cal l.prog w K mg base 1 "list_behind" 2 s_list_behind := ok_list_behind F2 (PySem.W.mg_of X G a2) b2 m_sum
  have c_law_pen : Cal l.prog w K mg base 1 "_law_pen" 2 s_law_pen := ok_law_pen F3 (PySem.W.mg_of X G a3) b3 
  have c_law_mixed : Cal l.prog w K mg base 1 "_law_mixed" 2 s_law_mixed := ok_law_mixed F4 (PySem.W.mg_of X G a4) b4 
  have c_law_table : Cal l.prog w K mg base 1 "_law_table" 2 s_law_table := ok_law_table F5 (PySem.W.mg_of X G a5) b5 m_int m_len m_sum
  have c_law_same : Cal l.prog w K mg base 5 "_law_same" 2 (s_law_same 4) := ok_law_same F6 (PySem.W.mg_of X G a6) b6 m_all m_bool m_int m_isinstance m_len m_list m_repr m_str m_tuple m_zip 4
  have c_table : Cal l.prog w K mg base 2 "table" 2 s_table := ok_table F7 (PySem.W.mg_of X G a7) b7 m_len c_first_list c_list_behind
  have c_law_take : Cal l.prog w K mg base 2 "_law_take" 2 s_law_take := ok_law_take F8 (PySem.W.mg_of X G a8) b8 m_abs m_len c_law_mixed
  have c_counts : Cal l.prog w K mg base 3 "counts" 2 s_counts := ok_counts F9 (PySem.W.mg_of X G a9) b9 c_table
  have c_law_signs : Cal l.prog w K mg base 3 "_law_signs" 1 s_law_signs := ok_law_signs F10 (PySem.W.mg_of X G a10) b10 c_law_take
  have c_law_goal : Cal l.prog w K mg base 3 "_law_goal" 4 s_law_goal := ok_law_goal F11 (PySem.W.mg_of X G a11) b11 c_law_take
  have c_law_machine : Cal l.prog w K mg base 4 "_law_machine" 3 s_law_machine := ok_law_machine F12 (PySem.W.mg_of X G a12) b12 m_int m_range c_law_take c_law_goal
  have c_law_right : Cal l.prog w K mg base 6 "_law_right" 2 s_law_right := ok_law_right F13 (PySem.W.mg_of X G a13) b13 m_list m_range c_law_table c_law_same c_table c_counts
  exact okF_law F14 m_int c_law_pen c_law_take c_law_signs c_law_machine c_law_right

end A_k21
open PySem PySem.W PyProof.Rows
set_option maxHeartbeats 0 in
theorem PySem.Challenge.cw_wordrules_k21_tables_told_holds : PySem.Challenge.rw_wordrules_k21_tables_told.Holds := by
  w_on; o_law; k_head; (case hw => w_witness2)
  k_fill
  refine L2.walk_of (l := PySem.Challenge.rw_wordrules_k21_tables_told) (n := 63) (k := 7) (x := "_law_script") (CX := fun _ => L2.CX0) (sp := fun w => AL.spOf _ 1 A_k21.s_law) rfl (by decide) rfl ⟨rfl, by decide, by decide⟩ (fun w h Y => PySem.W.kIn_of Y) ?F (fun _ H a ns hl _ hS => AL.law_sp A_k21.law_true _ H a ns hl hS) (fun _ _ _ _ _ h => h)
  case F =>
    intro w mg fa h KX G hmg
    refine' A_k21.all_mk KX G hmg ?a1 ?l1 ?c1 ?k1 ?a2 ?l2 ?c2 ?k2 ?a3 ?l3 ?c3 ?k3 ?a4 ?l4 ?c4 ?k4 ?a5 ?l5 ?c5 ?k5 ?a6 ?l6 ?c6 ?k6 ?a7 ?l7 ?c7 ?k7 ?a8 ?l8 ?c8 ?k8 ?a9 ?l9 ?c9 ?k9 ?a10 ?l10 ?c10 ?k10 ?a11 ?l11 ?c11 ?k11 ?a12 ?l12 ?c12 ?k12 ?a13 ?l13 ?c13 ?k13 ?a14 ?l14 ?c14 ?k14 ?z0 ?z1 ?z2 ?z3 ?z4 ?z5 ?z6 ?z7 ?z8 ?z9 ?z10 ?z11 ?z12
    (case a1 => k_is); (case l1 => k_is); (case c1 => k_is); (case k1 => k_is); (case a2 => k_is); (case l2 => k_is); (case c2 => k_is); (case k2 => k_is)
    (case a3 => k_is); (case l3 => k_is); (case c3 => k_is); (case k3 => k_is); (case a4 => k_is); (case l4 => k_is); (case c4 => k_is); (case k4 => k_is)
    (case a5 => k_is); (case l5 => k_is); (case c5 => k_is); (case k5 => k_is); (case a6 => k_is); (case l6 => k_is); (case c6 => k_is); (case k6 => k_is)
    (case a7 => k_is); (case l7 => k_is); (case c7 => k_is); (case k7 => k_is); (case a8 => k_is); (case l8 => k_is); (case c8 => k_is); (case k8 => k_is)
    (case a9 => k_is); (case l9 => k_is); (case c9 => k_is); (case k9 => k_is); (case a10 => k_is); (case l10 => k_is); (case c10 => k_is); (case k10 => k_is)
    (case a11 => k_is); (case l11 => k_is); (case c11 => k_is); (case k11 => k_is); (case a12 => k_is); (case l12 => k_is); (case c12 => k_is); (case k12 => k_is)
    (case a13 => k_is); (case l13 => k_is); (case c13 => k_is); (case k13 => k_is); (case a14 => k_is); (case l14 => k_is); (case c14 => k_is); (case k14 => k_is)
    (case z0 => k_is); (case z1 => k_is); (case z2 => k_is); (case z3 => k_is); (case z4 => k_is); (case z5 => k_is); (case z6 => k_is); (case z7 => k_is)
    (case z8 => k_is); (case z9 => k_is); (case z10 => k_is); (case z11 => k_is); (case z12 => k_is)
