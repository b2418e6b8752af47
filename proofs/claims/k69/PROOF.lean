import PyProof.Rows.All
import KE.SortData
import KE.DataCmp
import HandS.Dict
import Wide.All
import OpenK.AllK
import Wide.FinOn
import PyProof.EqAt
import PyProof.EqKinds
import PyProof.TupleCall
import PyProof.TupleOfSeq
import KE.SortKeyHeap
import KE.KDictSum
import HandS.ForMost
import HandS.Conv
import HandS.SortKw
import PySem.Challenge.RW_thinnet_k69_deeds_refused
import HandS.Words
import HandS.DictTup
import HandS.SetFor
import HandS.DictComp
import PyProof.ReprRoads
import HandS.ExcValue
import HandS.ExcIs
import PyProof.DictMoreH
import HandS.ForExc
import HandS.RaiseMore
import HandS.WordsExc
import HandS.TupAny
import HandS.TupLen
import HandS.IsInst
import HandS.Flow
import PyProof.StrLawsRepr
import KE.KStateDown
import Lean
import HandS.Head0
import HandS.Head1
import HandS.Head2
import HandS.HeadEnd
import HandS.HeadHook1
import HandS.HeadHook2
import HandS.HeadHook3
import HandS.HeadHook4
import HandS.HeadNt
set_option Elab.async false
set_option linter.all false
set_option maxRecDepth 100000
/-! Names, ties, nets as data; their order; what a deed is due, and what it leaves. Plain Lean: no program here. -/
namespace Thin
open PySem PySem.W
abbrev Tie := Str × Str × Int
abbrev pk (t : Tie) : Str × Str := (t.1, t.2.1)
def tieD (t : Tie) : PyData := .tuple [.str t.1, .str t.2.1, .int t.2.2]
def prD (k : Str × Str) : PyData := .tuple [.str k.1, .str k.2]
def netD (ps : List Str) (ts : List Tie) : PyData := .tuple [.tuple (ps.map .str), .tuple (ts.map tieD)]
def sLt (x y : Str) : Prop := x.cps.toList < y.cps.toList
instance (x y : Str) : Decidable (sLt x y) := by unfold sLt; infer_instance
theorem sLt_irr (x : Str) : ¬ sLt x x := List.lt_irrefl _
theorem sLt_trans {x y z : Str} (h : sLt x y) (k : sLt y z) : sLt x z := List.lt_trans h k
theorem sLt_asymm {x y : Str} (h : sLt x y) : ¬ sLt y x := fun k => sLt_irr _ (sLt_trans h k)
theorem sLt_tri {x y : Str} (h : ¬ sLt x y) (k : ¬ sLt y x) : x = y :=
  str_of_cps (List.le_antisymm (List.not_lt.mp k) (List.not_lt.mp h))
theorem sLt_or {x y : Str} (h : x ≠ y) : sLt x y ∨ sLt y x := by
  by_cases a : sLt x y
  · exact .inl a
  · by_cases b : sLt y x
    · exact .inr b
    · exact absurd (sLt_tri a b) h
theorem lt_str (x y : Str) : dataLt (.str x) (.str y) = decide (sLt x y) := dataLt_str x y
/-- pairs by their first names, then by their second ones -/
def pLt (k j : Str × Str) : Prop := sLt k.1 j.1 ∨ (k.1 = j.1 ∧ sLt k.2 j.2)
instance (k j : Str × Str) : Decidable (pLt k j) := by unfold pLt; infer_instance
theorem pLt_irr (k : Str × Str) : ¬ pLt k k := fun h => h.elim (sLt_irr _) fun z => sLt_irr _ z.2
theorem pLt_trans {a b c : Str × Str} (h : pLt a b) (k : pLt b c) : pLt a c := by
  rcases h with h | ⟨h1, h2⟩
  · rcases k with k | ⟨k1, k2⟩
    · exact .inl (sLt_trans h k)
    · exact .inl (k1 ▸ h)
  · rcases k with k | ⟨k1, k2⟩
    · exact .inl (h1 ▸ k)
    · exact .inr ⟨h1.trans k1, sLt_trans h2 k2⟩
theorem pLt_tri {a b : Str × Str} (h : ¬ pLt a b) (k : ¬ pLt b a) : a = b := by
  have e : a.1 = b.1 := sLt_tri (fun z => h (.inl z)) fun z => k (.inl z)
  have e2 : a.2 = b.2 := sLt_tri (fun z => h (.inr ⟨e, z⟩)) fun z => k (.inr ⟨e.symm, z⟩)
  exact Prod.ext e e2
theorem beq_str (x y : Str) : (x == y) = decide (x = y) := by
  by_cases h : x = y
  · rw [h]; simp
  · rw [decide_eq_false h]; exact beq_eq_false_iff_ne.mpr h
theorem eqv_str (x y : Str) : PyData.eqv (.str x) (.str y) = decide (x = y) := by
  simp only [PyData.eqv]; exact beq_str x y
theorem lt_pr (k j : Str × Str) : dataLt (prD k) (prD j) = decide (pLt k j) := by
  unfold prD
  rw [dataLt_pair (by simp [alike]) (by simp [alike]), eqv_str, eqv_str, lt_str, lt_str]
  unfold pLt
  by_cases e : k.1 = j.1
  · by_cases e2 : k.2 = j.2
    · have n1 := sLt_irr j.1
      have n2 := sLt_irr j.2
      simp [e, e2, n1, n2]
    · have n1 := sLt_irr j.1
      simp [e, e2, n1]
  · simp [e]
theorem lt_tie {t u : Tie} (h : pk t ≠ pk u) : dataLt (tieD t) (tieD u) = decide (pLt (pk t) (pk u)) := by
  unfold tieD
  rw [dataLt_tuple, dataLt_cons (by simp [alike]), dataLt_cons (by simp [alike]), eqv_str, eqv_str, lt_str, lt_str]
  unfold pLt
  by_cases e : t.1 = u.1
  · by_cases e2 : t.2.1 = u.2.1
    · exact absurd (Prod.ext e e2 : pk t = pk u) h
    · have n1 := sLt_irr u.1
      simp [e, e2, n1]
  · simp [e]
end Thin
namespace Thin
open PySem PySem.W
/-! ### sorted lists are one -/
theorem perm_one {α : Type} {le : α → α → Prop} : ∀ {l m : List α}, l.Perm m → l.Pairwise le → m.Pairwise le → (∀ a ∈ l, ∀ b ∈ l, le a b → le b a → a = b) → l = m
  | [], m, p, _, _, _ => (List.perm_nil.mp p.symm).symm
  | a :: l, [], p, _, _, _ => by have := p.length_eq; simp at this
  | a :: l, b :: m, p, h1, h2, an => by
    obtain ⟨ha, hl⟩ := List.pairwise_cons.mp h1
    obtain ⟨hb, hm⟩ := List.pairwise_cons.mp h2
    have e : a = b := by
      have m1 : a ∈ b :: m := p.mem_iff.mp List.mem_cons_self
      have m2 : b ∈ a :: l := p.mem_iff.mpr List.mem_cons_self
      rcases List.mem_cons.mp m1 with e | m1
      · exact e
      · rcases List.mem_cons.mp m2 with e | m2'
        · exact e.symm
        · exact an a List.mem_cons_self b m2 (ha b m2') (hb a m1)
    subst e
    rw [perm_one (List.Perm.cons_inv p) hl hm fun x hx y hy => an x (List.mem_cons_of_mem _ hx) y (List.mem_cons_of_mem _ hy)]
/-- a rising list, read as one whose later items are not below -/
theorem asc_of {α : Type} {lt : α → α → Prop} (as : ∀ a b, lt a b → ¬ lt b a) {l : List α} (h : l.Pairwise lt) : l.Pairwise fun a b => ¬ lt b a := h.imp fun z => as _ _ z
theorem asc_nodup {α : Type} {lt : α → α → Prop} (irr : ∀ a, ¬ lt a a) : ∀ {l : List α}, l.Pairwise lt → l.Nodup := fun {l} h => by
  have z : l.Pairwise (fun a b => a ≠ b) := h.imp fun {a b} z e => by
    rw [e] at z
    exact irr _ z
  exact z
/-- not below, no two the same: rising -/
theorem asc_strict {α : Type} {lt : α → α → Prop} (tri : ∀ a b, ¬ lt a b → ¬ lt b a → a = b) (dec : ∀ a b, Decidable (lt a b)) {l : List α} (h : l.Pairwise fun a b => ¬ lt b a) (nd : l.Nodup) : l.Pairwise lt := by
  have z : l.Pairwise fun a b => ¬ lt b a ∧ a ≠ b := List.pairwise_and_iff.mpr ⟨h, nd⟩
  refine z.imp fun {a b} q => ?_
  have := dec a b
  by_cases c : lt a b
  · exact c
  · exact absurd (tri a b c q.1) q.2
/-! ### the names of the law -/
def pool : List Str := ["a", "aa", "ab", "abc", "b", "ba", "bb", "c", "come", "d", "far", "in", "lay", "m", "n", "near", "out", "place", "q", "r", "tie", "tree", "x", "xy", "y", "zzzzzzzz"]
theorem pool_len : pool.length = 26 := by decide +kernel
theorem pool_nd : pool.Nodup := by decide +kernel
/-! ### least and greatest, pairs -/
def mnS (a b : Str) : Str := if sLt b a then b else a
def mxS (a b : Str) : Str := if sLt a b then b else a
abbrev pr (a b : Str) : Str × Str := (mnS a b, mxS a b)
theorem pr_lt {a b : Str} (h : a ≠ b) : sLt (mnS a b) (mxS a b) := by
  unfold mnS mxS
  rcases sLt_or h with z | z
  · rw [if_neg (sLt_asymm z), if_pos z]; exact z
  · rw [if_pos z, if_neg (sLt_asymm z)]; exact z
theorem pr_mem {a b : Str} {ps : List Str} (ha : a ∈ ps) (hb : b ∈ ps) : mnS a b ∈ ps ∧ mxS a b ∈ ps := by
  unfold mnS mxS
  constructor
  · split <;> assumption
  · split <;> assumption
theorem pr_same (a : Str) : pr a a = (a, a) := by
  unfold pr mnS mxS
  rw [if_neg (sLt_irr a)]
/-! ### nets -/
/-- a keeper's net -/
structure NetOk (ps : List Str) (ts : List Tie) : Prop where
  up : ps.Pairwise sLt
  inPool : ∀ p ∈ ps, p ∈ pool
  few : ps.length ≤ 24
  tup : ts.Pairwise fun t u => pLt (pk t) (pk u)
  ends : ∀ t ∈ ts, t.1 ∈ ps ∧ t.2.1 ∈ ps ∧ sLt t.1 t.2.1
  lens : ∀ t ∈ ts, 1 ≤ t.2.2 ∧ t.2.2 ≤ 9
  tfew : ts.length ≤ 60
theorem NetOk.nd {ps : List Str} {ts : List Tie} (h : NetOk ps ts) : ps.Nodup := asc_nodup sLt_irr h.up
theorem NetOk.pnd {ps : List Str} {ts : List Tie} (h : NetOk ps ts) : (ts.map pk).Nodup :=
  asc_nodup pLt_irr (List.pairwise_map.mpr h.tup)
/-- what the law's own net holds: the places in any order, the ties in any order -/
structure LawNet (ps : List Str) (ts : List Tie) (lps : List Str) (es : List Tie) : Prop where
  pl : lps.Perm ps
  ti : es.Perm ts
theorem LawNet.epnd {ps lps : List Str} {ts es : List Tie} (h : NetOk ps ts) (l : LawNet ps ts lps es) : (es.map pk).Nodup :=
  (l.ti.map pk).symm.nodup_iff.mp h.pnd
def joined (k : Str × Str) (ts : List Tie) : Bool := ts.any fun t => decide (pk t = k)
theorem joined_perm {k : Str × Str} {ts es : List Tie} (p : es.Perm ts) : joined k es = joined k ts := by
  unfold joined
  exact p.any_eq
def rest (k : Str × Str) (ts : List Tie) : List Tie := ts.filter fun t => decide (pk t ≠ k)
theorem rest_none {k : Str × Str} {ts : List Tie} (h : joined k ts = false) : rest k ts = ts := by
  unfold rest
  refine List.filter_eq_self.mpr fun t ht => decide_eq_true fun e => ?_
  have z : joined k ts = true := List.any_eq_true.mpr ⟨t, ht, decide_eq_true e⟩
  rw [h] at z; cases z
theorem rest_len {k : Str × Str} : ∀ {ts : List Tie}, (ts.map pk).Nodup → joined k ts = true → (rest k ts).length + 1 = ts.length
  | [], _, h => by cases h
  | t :: ts, nd, h => by
    rw [List.map_cons, List.nodup_cons] at nd
    by_cases e : pk t = k
    · have nj : joined k ts = false := by
        cases q : joined k ts with
        | false => rfl
        | true =>
          obtain ⟨u, hu, eu⟩ := List.any_eq_true.mp q
          exact absurd (List.mem_map.mpr ⟨u, hu, (of_decide_eq_true eu).trans e.symm⟩) nd.1
      have e2 : rest k (t :: ts) = rest k ts := by
        unfold rest
        rw [List.filter_cons_of_neg (by simp [e])]
      rw [e2, rest_none nj]
      rfl
    · have e2 : rest k (t :: ts) = t :: rest k ts := by
        unfold rest
        rw [List.filter_cons_of_pos (by simp [e])]
      have j : joined k ts = true := by
        have h' : (decide (pk t = k) || joined k ts) = true := h
        rw [decide_eq_false e, Bool.false_or] at h'
        exact h'
      rw [e2, List.length_cons, rest_len nd.2 j, List.length_cons]
theorem rest_perm {k : Str × Str} {ts es : List Tie} (p : es.Perm ts) : (rest k es).Perm (rest k ts) := p.filter _
theorem rest_sub (k : Str × Str) (ts : List Tie) : (rest k ts).Sublist ts := List.filter_sublist
theorem rest_not {k : Str × Str} {ts : List Tie} {t : Tie} (h : t ∈ rest k ts) : pk t ≠ k := of_decide_eq_true (List.mem_filter.mp h).2
end Thin
namespace Thin
open PySem PySem.W
/-! ### deeds -/
inductive Deed where
  | come (a : Str) | go (a : Str) | far (a b : Str) | lay (a b : Str) (l : Int) | take (a b : Str)
def Deed.word : Deed → Str
  | .come _ => "come" | .go _ => "go" | .far _ _ => "far" | .lay _ _ _ => "lay" | .take _ _ => "take"
def Deed.items : Deed → List PyData
  | .come a => [.str "come", .str a] | .go a => [.str "go", .str a] | .far a b => [.str "far", .str a, .str b]
  | .lay a b l => [.str "lay", .str a, .str b, .int l] | .take a b => [.str "take", .str a, .str b]
/-- what a deed is due: its word -/
def due (ps : List Str) (ts : List Tie) : Deed → Str
  | .come a => if a ∈ ps then "twice" else if ps.length = 24 then "many" else "ok"
  | .go a => if a ∈ ps then "ok" else "place"
  | .far a b => if a ∈ ps ∧ b ∈ ps then "ok" else "place"
  | .lay a b _ => if a ∈ ps ∧ b ∈ ps then (if a = b then "tie" else if joined (pr a b) ts = false ∧ ts.length = 60 then "many" else "ok") else "place"
  | .take a b => if a ∈ ps ∧ b ∈ ps then (if joined (pr a b) ts = true then "ok" else "tie") else "place"
theorem due_perm {ps lps : List Str} {ts es : List Tie} (L : LawNet ps ts lps es) (d : Deed) : due lps es d = due ps ts d := by
  have m : ∀ a, (a ∈ lps) = (a ∈ ps) := fun a => propext L.pl.mem_iff
  have lp := L.pl.length_eq
  have lt := L.ti.length_eq
  cases d <;> simp only [due, m, lp, lt, joined_perm L.ti]
def without (a : Str) (ts : List Tie) : List Tie := ts.filter fun t => decide (¬ (t.1 = a ∨ t.2.1 = a))
/-- what a done deed leaves of a net: the keeper's -/
def After (ps : List Str) (ts : List Tie) : Deed → List Str → List Tie → Prop
  | .come a, ps', ts' => ps'.Perm (ps ++ [a]) ∧ (ps'.Pairwise fun x y => ¬ sLt y x) ∧ ts' = ts
  | .go a, ps', ts' => ps' = ps.filter (fun p => decide (p ≠ a)) ∧ ts' = without a ts
  | .far _ _, ps', ts' => ps' = ps ∧ ts' = ts
  | .lay a b l, ps', ts' => ps' = ps ∧ ts'.Perm (rest (pr a b) ts ++ [((pr a b).1, (pr a b).2, l)]) ∧ ts'.Pairwise fun t u => dataLt (tieD u) (tieD t) = false
  | .take a b, ps', ts' => ps' = ps ∧ ts' = rest (pr a b) ts
theorem tie_strict {ts : List Tie} (h : ts.Pairwise fun t u => dataLt (tieD u) (tieD t) = false) (nd : (ts.map pk).Nodup) : ts.Pairwise fun t u => pLt (pk t) (pk u) := by
  have nd' : ts.Pairwise fun t u => pk t ≠ pk u := List.pairwise_map.mp nd
  refine (List.pairwise_and_iff.mpr ⟨h, nd'⟩).imp fun {t u} q => ?_
  obtain ⟨q1, q2⟩ := q
  rw [lt_tie (fun e => q2 e.symm)] at q1
  have q3 : ¬ pLt (pk u) (pk t) := of_decide_eq_false q1
  by_cases c : pLt (pk t) (pk u)
  · exact c
  · exact absurd (pLt_tri c q3) q2
/-- lengths that a deed may name -/
def Deed.fine : Deed → Prop
  | .come a => a ∈ pool | .go a => True | .far a b => True | .lay a b l => 1 ≤ l ∧ l ≤ 9 | .take a b => True
theorem after_ok {ps ps' : List Str} {ts ts' : List Tie} {d : Deed} (N : NetOk ps ts) (f : d.fine) (hd : due ps ts d = "ok") (A : After ps ts d ps' ts') : NetOk ps' ts' := by
  have k1 : ¬ ("twice" : Str) = "ok" := by decide +kernel
  have k2 : ¬ ("many" : Str) = "ok" := by decide +kernel
  have k3 : ¬ ("place" : Str) = "ok" := by decide +kernel
  have k4 : ¬ ("tie" : Str) = "ok" := by decide +kernel
  cases d with
  | come a =>
    obtain ⟨p, up, rfl⟩ := A
    simp only [due] at hd
    by_cases ha : a ∈ ps
    · rw [if_pos ha] at hd; exact absurd hd k1
    · rw [if_neg ha] at hd
      by_cases hl : ps.length = 24
      · rw [if_pos hl] at hd; exact absurd hd k2
      · have nd0 : (ps ++ [a]).Nodup := List.nodup_append.mpr ⟨N.nd, (List.nodup_cons.mpr ⟨List.not_mem_nil, List.nodup_nil⟩), fun x hx y hy e => by
          have e2 : y = a := List.mem_singleton.mp hy
          exact ha (by rw [← e2, ← e]; exact hx)⟩
        have nd : ps'.Nodup := p.symm.nodup_iff.mp nd0
        refine ⟨asc_strict (fun a b => sLt_tri) (fun a b => inferInstance) up nd, fun x hx => ?_, ?_, N.tup, fun t ht => ?_, N.lens, N.tfew⟩
        · rcases List.mem_append.mp (p.mem_iff.mp hx) with z | z
          · exact N.inPool x z
          · rw [List.mem_singleton.mp z]; exact f
        · have e := p.length_eq
          have h24 := N.few
          rw [List.length_append, List.length_singleton] at e
          omega
        · obtain ⟨e1, e2, e3⟩ := N.ends t ht
          exact ⟨p.mem_iff.mpr (List.mem_append_left _ e1), p.mem_iff.mpr (List.mem_append_left _ e2), e3⟩
  | go a =>
    obtain ⟨rfl, rfl⟩ := A
    refine ⟨N.up.filter _, fun x hx => N.inPool x (List.mem_filter.mp hx).1, Nat.le_trans (List.length_filter_le _ _) N.few, N.tup.filter _, fun t ht => ?_, fun t ht => N.lens t (List.mem_filter.mp ht).1, Nat.le_trans (List.length_filter_le _ _) N.tfew⟩
    obtain ⟨h1, h2⟩ := List.mem_filter.mp ht
    have h3 := of_decide_eq_true h2
    obtain ⟨e1, e2, e3⟩ := N.ends t h1
    exact ⟨List.mem_filter.mpr ⟨e1, decide_eq_true fun z => h3 (.inl z)⟩, List.mem_filter.mpr ⟨e2, decide_eq_true fun z => h3 (.inr z)⟩, e3⟩
  | far a b =>
    obtain ⟨rfl, rfl⟩ := A
    exact N
  | lay a b l =>
    obtain ⟨rfl, p, up⟩ := A
    simp only [due] at hd
    by_cases hab : a ∈ ps' ∧ b ∈ ps'
    · rw [if_pos hab] at hd
      by_cases e : a = b
      · rw [if_pos e] at hd; exact absurd hd k4
      · rw [if_neg e] at hd
        have hm : ¬ (joined (pr a b) ts = false ∧ ts.length = 60) := fun z => by rw [if_pos z] at hd; exact k2 hd
        have nd0 : ((rest (pr a b) ts ++ [((pr a b).1, (pr a b).2, l)]).map pk).Nodup := by
          rw [List.map_append]
          refine List.nodup_append.mpr ⟨((rest_sub _ _).map pk).nodup N.pnd, (List.nodup_cons.mpr ⟨List.not_mem_nil, List.nodup_nil⟩), fun x hx y hy e => ?_⟩
          obtain ⟨t, ht, et⟩ := List.mem_map.mp hx
          have e2 : y = pr a b := List.mem_singleton.mp hy
          exact rest_not ht (by rw [et, e, e2])
        have nd : (ts'.map pk).Nodup := (p.map pk).symm.nodup_iff.mp nd0
        have mem : ∀ t ∈ ts', t ∈ rest (pr a b) ts ∨ t = ((pr a b).1, (pr a b).2, l) := fun t ht => (List.mem_append.mp (p.mem_iff.mp ht)).imp_right fun z => List.mem_singleton.mp z
        refine ⟨N.up, N.inPool, N.few, tie_strict up nd, fun t ht => ?_, fun t ht => ?_, ?_⟩
        · rcases mem t ht with z | z
          · exact N.ends t ((rest_sub _ _).mem z)
          · rw [z]
            exact ⟨(pr_mem hab.1 hab.2).1, (pr_mem hab.1 hab.2).2, pr_lt e⟩
        · rcases mem t ht with z | z
          · exact N.lens t ((rest_sub _ _).mem z)
          · rw [z]; exact f
        · have e1 := p.length_eq
          rw [List.length_append, List.length_singleton] at e1
          have h60 := N.tfew
          cases j : joined (pr a b) ts with
          | true => have := rest_len N.pnd j; omega
          | false =>
            have e3 : ts.length ≠ 60 := fun z => hm ⟨j, z⟩
            rw [rest_none j] at e1
            omega
    · rw [if_neg hab] at hd; exact absurd hd k3
  | take a b =>
    obtain ⟨rfl, rfl⟩ := A
    exact ⟨N.up, N.inPool, N.few, N.tup.sublist (rest_sub _ _), fun t ht => N.ends t ((rest_sub _ _).mem ht), fun t ht => N.lens t ((rest_sub _ _).mem ht), Nat.le_trans (rest_sub _ _).length_le N.tfew⟩
/-! ### the law's own net behind a deed -/
def putT (es : List Tie) (k : Str × Str) (l : Int) : List Tie := if joined k es = true then es.map (fun t => if pk t = k then (k.1, k.2, l) else t) else es ++ [(k.1, k.2, l)]
theorem map_same {k : Str × Str} {l : Int} : ∀ {es : List Tie}, joined k es = false → es.map (fun t => if pk t = k then (k.1, k.2, l) else t) = es
  | [], _ => rfl
  | t :: es, h => by
    have h' : (decide (pk t = k) || joined k es) = false := h
    rw [Bool.or_eq_false_iff] at h'
    rw [List.map_cons, if_neg (of_decide_eq_false h'.1), map_same h'.2]
theorem rest_cons_pos {k : Str × Str} {t : Tie} {es : List Tie} (h : pk t = k) : rest k (t :: es) = rest k es := by
  unfold rest
  rw [List.filter_cons_of_neg (by simp [h])]
theorem rest_cons_neg {k : Str × Str} {t : Tie} {es : List Tie} (h : pk t ≠ k) : rest k (t :: es) = t :: rest k es := by
  unfold rest
  rw [List.filter_cons_of_pos (by simp [h])]
theorem not_joined {k : Str × Str} {es : List Tie} (h : k ∉ es.map pk) : joined k es = false := by
  cases q : joined k es with
  | false => rfl
  | true =>
    obtain ⟨u, hu, eu⟩ := List.any_eq_true.mp q
    exact absurd (List.mem_map.mpr ⟨u, hu, of_decide_eq_true eu⟩) h
theorem map_perm {k : Str × Str} {l : Int} : ∀ {es : List Tie}, (es.map pk).Nodup → joined k es = true → (es.map (fun t => if pk t = k then (k.1, k.2, l) else t)).Perm (rest k es ++ [(k.1, k.2, l)])
  | [], _, h => by cases h
  | t :: es, nd, h => by
    rw [List.map_cons, List.nodup_cons] at nd
    by_cases e : pk t = k
    · have nj : joined k es = false := not_joined (by rw [← e]; exact nd.1)
      rw [List.map_cons, if_pos e, map_same nj, rest_cons_pos e, rest_none nj]
      exact (List.perm_append_comm (l₁ := es) (l₂ := [(k.1, k.2, l)])).symm
    · have h' : (decide (pk t = k) || joined k es) = true := h
      rw [decide_eq_false e, Bool.false_or] at h'
      rw [List.map_cons, if_neg e, rest_cons_neg e]
      exact (map_perm nd.2 h').cons t
theorem putT_perm {k : Str × Str} {l : Int} {es : List Tie} (nd : (es.map pk).Nodup) : (putT es k l).Perm (rest k es ++ [(k.1, k.2, l)]) := by
  unfold putT
  cases j : joined k es with
  | true => rw [if_pos rfl]; exact map_perm nd j
  | false => rw [if_neg Bool.false_ne_true, rest_none j]
def LawAfter (lps : List Str) (es : List Tie) : Deed → List Str → List Tie → Prop
  | .come a, lps', es' => lps' = lps ++ [a] ∧ es' = es
  | .go a, lps', es' => lps' = lps.erase a ∧ es' = without a es
  | .far _ _, lps', es' => lps' = lps ∧ es' = es
  | .lay a b l, lps', es' => lps' = lps ∧ es' = putT es (pr a b) l
  | .take a b, lps', es' => lps' = lps ∧ es' = rest (pr a b) es
theorem erase_perm {ps lps : List Str} {a : Str} (p : lps.Perm ps) (nd : ps.Nodup) : (lps.erase a).Perm (ps.filter fun x => decide (x ≠ a)) := by
  have e := nd.erase_eq_filter a
  have e2 : ps.filter (fun x => decide (x ≠ a)) = ps.erase a := by
    rw [e]
    refine List.filter_congr fun x _ => ?_
    by_cases h : x = a <;> simp [h]
  rw [e2]
  exact p.erase a
theorem law_after {ps ps' lps lps' : List Str} {ts ts' es es' : List Tie} {d : Deed} (N : NetOk ps ts) (L : LawNet ps ts lps es) (A : After ps ts d ps' ts') (B : LawAfter lps es d lps' es') : LawNet ps' ts' lps' es' := by
  cases d with
  | come a =>
    obtain ⟨p, _, rfl⟩ := A
    obtain ⟨rfl, rfl⟩ := B
    exact ⟨(L.pl.append_right [a]).trans p.symm, L.ti⟩
  | go a =>
    obtain ⟨rfl, rfl⟩ := A
    obtain ⟨rfl, rfl⟩ := B
    exact ⟨erase_perm L.pl N.nd, L.ti.filter _⟩
  | far a b =>
    obtain ⟨rfl, rfl⟩ := A
    obtain ⟨rfl, rfl⟩ := B
    exact L
  | lay a b l =>
    obtain ⟨rfl, p, _⟩ := A
    obtain ⟨rfl, rfl⟩ := B
    exact ⟨L.pl, (putT_perm (L.epnd N)).trans (((rest_perm L.ti).append_right _).trans p.symm)⟩
  | take a b =>
    obtain ⟨rfl, rfl⟩ := A
    obtain ⟨rfl, rfl⟩ := B
    exact ⟨L.pl, rest_perm L.ti⟩
end Thin
namespace Thin
open PySem PySem.W L2
/-! ### the law's ties as a dict by pairs -/
abbrev kk (k : Str × Str) : List Key := [Sum.inr k.1, Sum.inr k.2]
def entT (t : Tie) : List Key × V := (kk (pk t), V.int t.2.2)
abbrev tab (es : List Tie) : List (List Key × V) := es.map entT
theorem kk_inj {a b : Str × Str} (h : kk a = kk b) : a = b := by
  injection h with h1 h2
  injection h2 with h2 _
  injection h1 with h1
  injection h2 with h2
  exact Prod.ext h1 h2
theorem kk_eq (a b : Str × Str) : decide (kk a = kk b) = decide (a = b) := by
  by_cases h : a = b
  · rw [h]; simp
  · rw [decide_eq_false h, decide_eq_false fun z => h (kk_inj z)]
theorem tab_any (k : Str × Str) : ∀ es : List Tie, ((tab es).any fun kv => decide (kv.1 = kk k)) = joined k es
  | [] => rfl
  | t :: es => by
    show (decide (kk (pk t) = kk k) || (tab es).any fun kv => decide (kv.1 = kk k)) = (decide (pk t = k) || joined k es)
    rw [tab_any k es, kk_eq]
theorem tab_put (es : List Tie) (k : Str × Str) (l : Int) : putK (tab es) (kk k) (V.int l) = tab (putT es k l) := by
  unfold putK putT
  rw [tab_any]
  cases j : joined k es with
  | false => rw [if_neg Bool.false_ne_true, if_neg Bool.false_ne_true]; simp [tab, entT]
  | true =>
    rw [if_pos rfl, if_pos rfl]
    simp only [tab, List.map_map]
    refine List.map_congr_left fun t _ => ?_
    show (if (entT t).1 = kk k then ((entT t).1, V.int l) else entT t) = entT (if pk t = k then (k.1, k.2, l) else t)
    by_cases e : pk t = k
    · rw [if_pos e, if_pos (show (entT t).1 = kk k by unfold entT; rw [e])]
      unfold entT
      rw [e]
    · rw [if_neg e, if_neg (show ¬ (entT t).1 = kk k from fun z => e (kk_inj z))]
theorem tab_drop (es : List Tie) (k : Str × Str) : dropK (tab es) (kk k) = tab (rest k es) := by
  unfold dropK rest tab
  rw [List.filter_map]
  congr 1
  refine List.filter_congr fun t _ => ?_
  show decide ((entT t).1 ≠ kk k) = decide (pk t ≠ k)
  by_cases e : pk t = k
  · simp [entT, e]
  · have z : ¬ kk (pk t) = kk k := fun q => e (kk_inj q)
    simp only [entT, ne_eq, z, e, not_false_eq_true]
def lookT (es : List Tie) (k : Str × Str) : Option Int := (es.find? fun t => decide (pk t = k)).map (·.2.2)
theorem tab_val (k : Str × Str) : ∀ es : List Tie, valV (tab es) (kk k) = (lookT es k).map V.int
  | [] => rfl
  | t :: es => by
    by_cases e : pk t = k
    · rw [show tab (t :: es) = entT t :: tab es from rfl, valV_pos (show (entT t).1 = kk k by unfold entT; rw [e])]
      unfold lookT
      rw [List.find?_cons_of_pos (by simp [e])]
      rfl
    · rw [show tab (t :: es) = entT t :: tab es from rfl, valV_neg (show ¬ (entT t).1 = kk k from fun z => e (kk_inj z)), tab_val k es]
      unfold lookT
      rw [List.find?_cons_of_neg (by simp [e])]
theorem look_mem : ∀ {es : List Tie} {t : Tie}, (es.map pk).Nodup → t ∈ es → lookT es (pk t) = some t.2.2
  | u :: es, t, nd, h => by
    rw [List.map_cons, List.nodup_cons] at nd
    unfold lookT
    rcases List.mem_cons.mp h with e | h
    · subst e
      rw [List.find?_cons_of_pos (by simp)]
      rfl
    · have ne : pk u ≠ pk t := fun e => nd.1 (by rw [e]; exact List.mem_map.mpr ⟨t, h, rfl⟩)
      rw [List.find?_cons_of_neg (by simp [ne])]
      exact look_mem nd.2 h
theorem look_some {es : List Tie} {k : Str × Str} : (lookT es k).isSome = joined k es := by
  unfold lookT joined
  induction es with
  | nil => rfl
  | cons t es ih =>
    by_cases e : pk t = k
    · rw [List.find?_cons_of_pos (by simp [e])]; simp [e]
    · rw [List.find?_cons_of_neg (by simp [e])]
      rw [List.any_cons, decide_eq_false e, Bool.false_or]
      exact ih
/-- the law's net, told anew: the sorted pairs with their lengths are the keeper's ties -/
theorem net_same {ps lps : List Str} {ts es : List Tie} {ks : List (Str × Str)} (N : NetOk ps ts) (L : LawNet ps ts lps es) (p : ks.Perm (es.map pk)) (up : ks.Pairwise fun a b => dataLt (prD b) (prD a) = false) :
    ks = ts.map pk ∧ ∀ t ∈ ts, lookT es (pk t) = some t.2.2 := by
  constructor
  · have p2 : ks.Perm (ts.map pk) := p.trans (L.ti.map pk)
    refine perm_one (le := fun a b => ¬ pLt b a) p2 (up.imp fun {a b} q => ?_) (asc_of (lt := pLt) (fun a b x y => pLt_irr _ (pLt_trans x y)) (List.pairwise_map.mpr N.tup)) fun a _ b _ h1 h2 => pLt_tri h2 h1
    rw [lt_pr] at q
    exact of_decide_eq_false q
  · intro t ht
    exact look_mem (L.epnd N) (L.ti.mem_iff.mpr ht)
theorem places_same {ps lps : List Str} {ts es : List Tie} {xs : List Str} (N : NetOk ps ts) (L : LawNet ps ts lps es) (p : xs.Perm lps) (up : xs.Pairwise fun a b => dataLt (.str b) (.str a) = false) : xs = ps := by
  refine perm_one (le := fun a b => ¬ sLt b a) (p.trans L.pl) (up.imp fun {a b} q => ?_) (asc_of (lt := sLt) (fun a b x y => sLt_irr _ (sLt_trans x y)) N.up) fun a _ b _ h1 h2 => sLt_tri h2 h1
  rw [lt_str] at q
  exact of_decide_eq_false q
end Thin
set_option maxHeartbeats 2000000
/-! sorted(..) of data: of a list, a tuple, a dict whose keys are tuples; by a key. -/
namespace L2.T
open PySem PySem.Spec PyProof.Rows
open PySem.W (dataLt dataLe alike AllAlike Sortable EachIs)
/-! ### data in a larger heap -/
theorem Rd_same {H H' : Hp} {a : Addr} {u : HO} (e : Same H H') (h : Rd H a u) : Rd H' a u := by
  rcases h with h | ⟨o, h⟩
  · exact .inl (e _ _ h)
  · exact .inr ⟨o, e _ _ h⟩
theorem seqT_same {K : PySem.W.Frag} {H H' : Hp} {a : Addr} {xs : List V} (e : Same H H') (h : SqT K H a xs) : SqT K H' a xs := by
  rcases h with h | h
  · exact .inl (Rd_same e h)
  · exact .inr h
mutual
theorem Dp_same {K : PySem.W.Frag} {H H' : Hp} (e : Same H H') : ∀ {d : PyData} {v : V}, Dp K H v d → Dp K H' v d
  | _, _, .non => .non
  | _, _, .bl b => .bl b
  | _, _, .int i => .int i
  | _, _, .str x => .str x
  | _, _, .lst h a => .lst (e.seq h) (DpAll_same e a)
  | _, _, .tup h a => .tup (seqT_same e h) (DpAll_same e a)
theorem DpAll_same {K : PySem.W.Frag} {H H' : Hp} (e : Same H H') : ∀ {ds : List PyData} {vs : List V}, DpAll K H vs ds → DpAll K H' vs ds
  | _, _, .nil => .nil
  | _, _, .cons h a => .cons (Dp_same e h) (DpAll_same e a)
end
theorem same_upd {H : Hp} {p : Addr} {o : HO} (h : H p = none) : Same H (upd H p o) := fun b u q => by
  rw [upd_ne (ne_of_none q h)]
  exact q
theorem DpAll_len {K : PySem.W.Frag} {H : Hp} : ∀ {vs : List V} {ds : List PyData}, DpAll K H vs ds → vs.length = ds.length
  | _, _, .nil => rfl
  | _, _, .cons _ a => congrArg Nat.succ (DpAll_len a)
mutual
theorem reads_lt {h : Heap} : ∀ {v : Value} {d : PyData} {as : List Addr}, Reads h v d as → ∀ b ∈ as, b < h.objs.size
  | _, _, _, .none, _, m => nomatch m
  | _, _, _, .bool _, _, m => nomatch m
  | _, _, _, .int _ _, _, m => nomatch m
  | _, _, _, .str _ _, _, m => nomatch m
  | _, _, _, .list h1 _ _ h4, b, m => by
    rcases List.mem_cons.mp m with e | m
    · rw [e]; exact Heap.lt_size h1
    · exact readsAll_lt h4 b m
  | _, _, _, .tuple _ _ _ h4, b, m => readsAll_lt h4 b m
  | _, _, _, .dict h1 _ _ h4 h5, b, m => by
    rcases List.mem_append.mp m with m | m
    · rcases List.mem_cons.mp m with e | m
      · rw [e]; exact Heap.lt_size h1
      · exact readsAll_lt h4 b m
    · exact readsAll_lt h5 b m
theorem readsAll_lt {h : Heap} : ∀ {vs : List Value} {ds : List PyData} {as : List Addr}, ReadsAll h vs ds as → ∀ b ∈ as, b < h.objs.size
  | _, _, _, .nil, _, m => nomatch m
  | _, _, _, .cons h1 h2, b, m => (List.mem_append.mp m).elim (reads_lt h1 b) (readsAll_lt h2 b)
end
/-- an item with what it stands for -/
def Stands {β : Type} (K : PySem.W.Frag) (H : Hp) (enc : β → PyData) (v : Value) (b : β) : Prop := ∃ x, RelV x v ∧ Dp K H x (enc b)
theorem stands_of {β : Type} {K : PySem.W.Frag} {H : Hp} (enc : β → PyData) : ∀ {bs : List β} {xs : List V} {us : List Value}, DpAll K H xs (bs.map enc) → Vals xs us → EachIs (Stands K H enc) us bs
  | [], _, _, a, r => by
    have a' : DpAll K H _ [] := a
    cases a'; cases r; exact .nil
  | b :: bs, _, _, a, r => by
    have a' : DpAll K H _ (enc b :: bs.map enc) := a
    cases a' with
    | cons h a => cases r with
      | cons r1 r2 => exact .cons ⟨_, r1, h⟩ (stands_of enc a r2)
theorem of_stands {β : Type} {K : PySem.W.Frag} {H : Hp} (enc : β → PyData) : ∀ {bs : List β} {us : List Value}, EachIs (Stands K H enc) us bs → ∃ xs : List V, Vals xs us ∧ DpAll K H xs (bs.map enc)
  | _, _, .nil => ⟨[], .nil, .nil⟩
  | _, _, .cons ⟨x, r, d⟩ t => by
    obtain ⟨xs, rs, ds⟩ := of_stands enc t
    exact ⟨x :: xs, .cons r rs, .cons d ds⟩
section
variable {prog : Program} {w : World} {A : Around} {E : Value → Shared → Prop} {s : Shared}
/-- sorted(r, ..): r's items go into a new list, which list.sort sorts -/
theorem sorted_via {r : Value} {vs : List Value} {kw : List (Str × Value)} {Q : Value → Shared → Prop} (hL : vs.length ≤ sizeLine) (ha1 : argsOk "sorted" ⟨[r], kw⟩)
    (col : ∀ (R : List Value → Shared → Prop) (E' : Value → Shared → Prop), (∀ h' tk, (∀ b o, s.heap.get? b = some o → h'.get? b = some o) → R vs { s with heap := h', toks := tk }) → wpAny (model prog w) A.in1 (collect r) R E' s)
    (srt : ∀ (h' : Heap) (tk : Nat) (E' : Value → Shared → Prop), (∀ b o, s.heap.get? b = some o → h'.get? b = some o) →
      wpAny (model prog w) A.in1 (call (.builtin "list.sort") [.ref h'.objs.size] kw) (fun _ s' => Q (.ref h'.objs.size) s') E' { s with heap := h'.push (seqObj "list" vs.toArray 0), toks := tk }) :
    wpAny (model prog w) A (call (.builtin "sorted") [r] kw) Q E s := by
  refine call_function_entry_kw kind_sorted plain_sorted entry_sorted ha1 ?_
  unfold Builtin.«sorted»
  refine wpAny_bind (m := checkCount "sorted" 1 1 _) (wpAny_pure ?_)
  refine wpAny_bind (col _ _ fun h' tk k => ?_)
  refine wpAny_bind (wpAny_newList ?_ hL)
  refine wpAny_bind (wpAny_holding (wpAny_mono (srt h' tk _ k) (fun v s' hq => ?_) fun _ _ e => e))
  exact wpAny_pure ⟨_, rfl, hq⟩
end
theorem le_facts {β : Type} (enc : β → PyData) (bs : List β) : (bs.mergeSort (dataLe false enc)).Perm bs ∧ (bs.mergeSort (dataLe false enc)).Pairwise fun x y => dataLt (enc y) (enc x) = false := by
  refine ⟨List.mergeSort_perm _ _, (PySem.W.sort_pairwise (PySem.W.sortLe_total _ _ _) bs).imp fun {x y} h => ?_⟩
  have h' : (!dataLt (enc y) (enc x)) = true := h
  simpa using h'
section
variable {X : Cx} {pins : List (Addr × Obj)} {σ : St} {H : Hp} {s : Shared}
theorem sorted_core {β : Type} {r : Value} {xs : List V} {bs : List β} {enc : β → PyData} {its : List Value} {Q : VK} (I : Inv X pins σ H s) (rv : Vals xs its) (hz : xs.length ≤ sizeLine) (dp : DpAll X.K H xs (bs.map enc))
    (al : AllAlike (bs.map enc)) (so : Sortable (bs.map enc)) (dep : ∀ b ∈ bs, (enc b).depth ≤ 8) (hu : X.A.units + 64 < cLine) (ha1 : argsOk "sorted" ⟨[r], []⟩)
    (col : ∀ (R : List Value → Shared → Prop) (E' : Value → Shared → Prop), (∀ h' tk, (∀ b o, s.heap.get? b = some o → h'.get? b = some o) → R its { s with heap := h', toks := tk }) → wpAny (model X.prog X.w) X.A.in1 (collect r) R E' s)
    (q : ∀ (p : Addr) (ys : List V) (cs : List β), H p = none → cs.Perm bs → (cs.Pairwise fun x y => dataLt (enc y) (enc x) = false) → DpAll X.K H ys (cs.map enc) → Q (.ref p) (upd H p (.lst ys))) :
    wpAny (model X.prog X.w) X.A (call (.builtin "sorted") [r]) (EP X pins σ Q) X.xe s := by
  have hl := rv.length
  have e0 := stands_of enc dp rv
  refine sorted_via (kw := []) (by omega) ha1 col fun h' tk E' k => ?_
  have I1 : Inv X pins σ H { s with heap := h', toks := tk } := I.kept k
  have new : ∀ b, b < h'.objs.size → b ≠ h'.objs.size := fun b hb e => by rw [e] at hb; exact Nat.lt_irrefl _ hb
  have ho : (h'.push (seqObj "list" its.toArray 0)).get? h'.objs.size = some (seqObj "list" its.toArray 0) := Heap.get?_push_size _ rfl
  refine PySem.W.list_sort_data (s := { s with heap := h'.push (seqObj "list" its.toArray 0), toks := tk }) (A := X.A.in1) (R := Stands X.K H enc) ho e0 (e0.mono ?er) al so (by rw [← e0.length]; omega) ?hu ?hq
  case er =>
    rintro v b ⟨x, rx, d⟩
    obtain ⟨as, rd⟩ := Dp.reads I1 _ x v d rx
    exact ⟨as, PyProof.Rows.Reads.keeps (fun b o e => Heap.get?_push_of_some _ e) rd, fun m => new _ (reads_lt rd _ m) rfl⟩
  case hu =>
    intro b hb
    have h1 := dep b hb
    show X.A.units + 1 + 1 + (enc b).depth < cLine
    omega
  case hq =>
    intro out hout eo
    obtain ⟨ys, ry, dy⟩ := of_stands enc eo
    obtain ⟨ep, he⟩ := PyProof.Rows.sortedHeap_at (vs := its) (out := out.toArray) ho
    obtain ⟨f1, f2⟩ := le_facts enc bs
    have hlen : ys.length ≤ sizeLine := by rw [ry.length, hout, ← e0.length]; omega
    have hn : H h'.objs.size = none := I1.hok.fresh (Nat.le_refl _)
    refine ⟨.ref h'.objs.size, upd H h'.objs.size (.lst ys), I1.laid (t' := tk) (fun b u e => ?_) (Nat.le_refl _) ⟨hlen, out, ep, ry, he⟩, rfl, q _ ys _ hn f1 f2 dy⟩
    exact (PyProof.Rows.sortedHeap_old (new b (Heap.lt_size e)) (by rw [Heap.size_push]; exact Nat.lt_succ_of_lt (Heap.lt_size e))).trans (Heap.get?_push_of_some _ e)
end
end L2.T
set_option maxHeartbeats 2000000
namespace L2.T
open PySem PySem.Spec PyProof.Rows
open PySem.W (dataLt dataLe alike AllAlike Sortable EachIs)
open Thin (Tie tieD)
section
variable {X : Cx}
/-- sorted(xs), xs a list or a tuple of data -/
def rSortD (K : PySem.W.Frag) : List V → Hp → VK → Prop := fun vs H Q => ∃ (β : Type) (a : Addr) (xs : List V) (bs : List β) (enc : β → PyData), vs = [.ref a] ∧ (SqL K H a xs ∨ SqT K H a xs) ∧
  DpAll K H xs (bs.map enc) ∧ AllAlike (bs.map enc) ∧ Sortable (bs.map enc) ∧ (∀ b ∈ bs, (enc b).depth ≤ 8) ∧
  ∀ (p : Addr) (ys : List V) (cs : List β), H p = none → cs.Perm bs → (cs.Pairwise fun x y => dataLt (enc y) (enc x) = false) → DpAll K H ys (cs.map enc) → Q (.ref p) (upd H p (.lst ys))
theorem cr_sortD (hu : X.A.units + 64 < cLine) : CallR X (.builtin "sorted") (rSortD X.K) := by
  intro pins s σ H vs us Q I r h
  obtain ⟨β, a, xs, bs, enc, rfl, hs, dp, al, so, dep, q⟩ := h
  obtain ⟨u, rfl, ru⟩ := vals1 r
  cases ru
  rcases hs with hs | hs
  · obtain ⟨its, rv, pl, hz⟩ := I.list hs
    obtain ⟨o, ho, hc, n, hd⟩ := pl.isList
    have hl := rv.length
    refine sorted_core I rv hz dp al so dep hu (args_sorted1 _) (fun R E' hR => wpAny_collect_seq a (.inl rfl) ho hc hd (fun h' k => ?_) (by rw [List.size_toArray]; omega)) q
    have e : its.toArray.toList = its := by simp
    rw [e]
    exact hR h' s.toks k
  · obtain ⟨its, rv, ⟨o, ho, hc, n, hd⟩, hz⟩ := I.tuple hs
    have hl := rv.length
    refine sorted_core I rv hz dp al so dep hu (args_sorted1 _) (fun R E' hR => wpAny_collect_seq a (.inr rfl) ho hc hd (fun h' k => ?_) (by rw [List.size_toArray]; omega)) q
    have e : its.toArray.toList = its := by simp
    rw [e]
    exact hR h' s.toks k
def keyD : Key → PyData
  | .inl i => .int i
  | .inr x => .str x
theorem dp_key {K : PySem.W.Frag} {H : Hp} (k : Key) : Dp K H (kV k) (keyD k) := by
  cases k with
  | inl i => exact .int i
  | inr x => exact .str x
theorem dp_keys {K : PySem.W.Frag} {H : Hp} : ∀ ks : List Key, DpAll K H (ks.map kV) (ks.map keyD)
  | [] => .nil
  | k :: ks => .cons (dp_key k) (dp_keys ks)
theorem dp_isKeys {K : PySem.W.Frag} {H : Hp} : ∀ {kvs : List (List Key × V)} {bs : List Addr}, IsKeys H kvs bs → DpAll K H (bs.map V.ref) (kvs.map fun p => PyData.tuple (p.1.map keyD))
  | _, _, .nil => .nil
  | _, _, .cons h t => .cons (.tup (SqT.of h) (dp_keys _)) (dp_isKeys t)
/-- sorted(d), d a dict by tuples -/
def rSortTab (K : PySem.W.Frag) : List V → Hp → VK → Prop := fun vs H Q => ∃ (β : Type) (a : Addr) (kvs : List (List Key × V)) (bs : List β) (enc : β → PyData), vs = [.ref a] ∧ Rd H a (.dT kvs) ∧
  (kvs.map fun p => PyData.tuple (p.1.map keyD)) = bs.map enc ∧ AllAlike (bs.map enc) ∧ Sortable (bs.map enc) ∧ (∀ b ∈ bs, (enc b).depth ≤ 8) ∧
  ∀ (p : Addr) (ys : List V) (cs : List β), H p = none → cs.Perm bs → (cs.Pairwise fun x y => dataLt (enc y) (enc x) = false) → DpAll K H ys (cs.map enc) → Q (.ref p) (upd H p (.lst ys))
theorem cr_sortTab (hc : X.calm = true) (hu : X.A.units + 64 < cLine) : CallR X (.builtin "sorted") (rSortTab X.K) := by
  intro pins s σ H vs us Q I r h
  obtain ⟨β, a, kvs, bs, enc, rfl, hd, ek, al, so, dep, q⟩ := h
  obtain ⟨u, rfl, ru⟩ := vals1 r
  cases ru
  obtain ⟨z, hs, ks, kp, o, es, ep, ho, hx, hdt, he, hn⟩ := (show ObjOk X.prog X.w H s.heap a (.dT kvs) from hd.ok I.hok)
  have n1 : es.size = ks.length := size_of_entries he
  have n2 : kvs.length = ks.length := Paired.length kp
  have rv : Vals ((ks.map fun x => x.2.1).map V.ref) ((ks.map fun x => x.2.1).map Value.ref) := vals_refs _
  have dk : DpAll X.K H ((ks.map fun x => x.2.1).map V.ref) (bs.map enc) := by
    rw [← ek]
    exact dp_isKeys (isKeys_of kp)
  refine sorted_core I rv (by rw [List.length_map, List.length_map]; omega) dk al so dep hu (args_sorted1 _) (fun R E' hR => PySem.W.kdu_collect (A := X.A.in1) (kdl_raw hs hx hdt) (I.ok.hd hc) ho (by omega) fun h' tk acc keep it => ?_) q
  have len : acc.toList.length = ks.length := by rw [Array.length_toList, it.1]; exact n1
  have ea : acc.toList = (ks.map fun x => x.2.1).map Value.ref := by
    apply List.ext_getElem?
    intro j
    rw [List.getElem?_map, List.getElem?_map]
    by_cases hj : j < ks.length
    · have e1 : acc.toList[j]? = some acc.toList[j] := List.getElem?_eq_getElem (by omega)
      obtain ⟨en, hen, hv⟩ := it.2 j acc.toList[j] (by rw [← Array.getElem?_toList]; exact e1)
      have e2 : ks[j]? = some ks[j] := List.getElem?_eq_getElem hj
      have e3 := entry_at he j
      rw [hen, e2] at e3
      have e4 : en = entryOfKey (tupleKind (mixKind X.prog X.w)) ks[j] := Option.some.inj e3
      rw [e1, e2, hv, e4]
      rfl
    · rw [List.getElem?_eq_none (by omega), List.getElem?_eq_none (by omega)]
      rfl
  rw [ea]
  exact hR h' tk keep
end
end L2.T
set_option maxHeartbeats 2000000
namespace L2.T
open PySem PySem.Spec PyProof.Rows
open PySem.W (dataLt dataLe alike AllAlike Sortable EachIs KeyPure KeepsBut)
open Thin (Tie tieD)
def topS (i : Nat) : Stmt := PySem.Challenge.pw_thinnet_k69_deeds_refused.main.body.getD i (.Pass ⟨0, 0, 0, 0⟩)
abbrev sRank : Stmt := topS 13
/-- what rank gives -/
def rankD (t : Tie) : PyData := .tuple [.int t.2.2, .str t.1, .str t.2.1]
theorem rank_turn {P : Program} {w : World} {K : PySem.W.Frag} {fR : Addr} {fd : FuncData} (F : Fun K "rank" "rank" sRank fR fd) {A : Around} {s : Shared} (X : K.In s.heap) (lim : s.heap.NoLimit) (hroom : A.depth < recursionLimit)
    {T : Addr} {t : Tie} {u1 u2 u3 : Tok} (ht : IsTup s.heap T #[.str t.1 u1, .str t.2.1 u2, .int t.2.2 u3]) :
    wpAny (model P w) A (call (.ref fR) [.ref T]) (KeyPure (rankD t) s) (fun _ _ => False) s := by
  obtain ⟨oc, od, kV, doc, pm, an, cdv, ct, osl, rfl, lk, hcd⟩ := F.ex
  refine wpAny_call ?_
  refine Att.call_fn (binds := [("tie", .ref T)]) X lim lk hcd hroom (BindsTo.of_eq (by first | rfl | with_unfolding_all rfl)) (by first | rfl | decide | with_unfolding_all rfl) (fun s₁ IC => ?_) rfl rfl rfl
  obtain ⟨h₁, tk₁, rfl⟩ := IC.toInCall.same
  have k : ∀ b o, s.heap.get? b = some o → h₁.get? b = some o := IC.toInCall.keep
  have hn := IC.toInCall.ns
  have ht1 : IsTup h₁ T #[.str t.1 u1, .str t.2.1 u2, .int t.2.2 u3] := by
    obtain ⟨o, ho, hc, n, hd⟩ := ht
    exact ⟨o, k _ _ ho, hc, n, hd⟩
  have sub : ∀ {j : Nat} {x : Value} {i : Int} {e p1 p2 p3} {Q : Value → Shared → Prop} {tk : Nat} {E : Value → Shared → Prop}, i = (j : Int) → j < 3 → (#[Value.str t.1 u1, .str t.2.1 u2, .int t.2.2 u3] : Array Value)[j]? = some x →
      Q x { s with heap := h₁, toks := tk + 1 } →
      wpAny (model P w) (A.deeper (envOfC "rank" (defScope sRank) s.heap.objs.size fR cdv)) (eval (.Subscript (.Name "tie" p1) (.Constant (.int i) e p2) p3) (envOfC "rank" (defScope sRank) s.heap.objs.size fR cdv)) Q E { s with heap := h₁, toks := tk } := by
    intro j x i e p1 p2 p3 Q tk E hi hj hx hq
    subst hi
    refine Subscript_ (wpAny_Name (wpAny_loadName_local (by first | rfl | with_unfolding_all rfl) (by first | rfl | with_unfolding_all rfl) hn (by first | rfl | with_unfolding_all rfl) (wpAny_Constant_int ?_)) (by decide))
    refine subscriptTail_builtinR (x := x) (Q := Q) (T := "tuple") (id := "tuple.__getitem__") ht1.typeIs slot_tuple_getitem.lookup ?_
    exact getItem_tuple (j := j) ht1 (by omega) (by omega) (by simp [seqIndex?]; omega) hx ⟨rfl, hq⟩
  show wpAny _ _ (execs (defBody sRank) _) _ _ _
  refine wpAny_execs_cons (wpAny_Return_some (wpAny_Tuple_spliced ?_))
  refine Calls.spliced_cons (sub (j := 2) rfl (by decide) rfl ?_)
  refine Calls.spliced_cons (sub (j := 0) rfl (by decide) rfl ?_)
  refine Calls.spliced_cons (sub (j := 1) rfl (by decide) rfl ?_)
  refine Calls.spliced_nil ⟨by show 3 ≤ sizeLine; decide, ?_⟩
  show KeyPure (rankD t) s (.ref h₁.objs.size) _
  exact ⟨_, _, rfl, fun b o e => Heap.get?_push_of_some _ (k b o e), .tuple (Heap.get?_push_size _ rfl) rfl rfl (.cons (.int _ _) (.cons (.str _ _) (.cons (.str _ _) .nil)))⟩
theorem rank_alike (ts : List Tie) : AllAlike (ts.map rankD) := PySem.W.AllAlike.of fun a b => by simp [rankD, alike, PySem.W.alikeAll]
theorem rank_sortable (ts : List Tie) : Sortable (ts.map rankD) := PySem.W.Sortable.tuples fun b => ⟨_, _, rfl⟩
theorem rank_depth (t : Tie) : (rankD t).depth ≤ 8 := by simp [rankD, PyData.depth, PyData.depthAll]
/-- a tie's three values -/
theorem tie_vals {X : Cx} {pins : List (Addr × Obj)} {σ : St} {H : Hp} {s : Shared} (I : Inv X pins σ H s) {t : Tie} {v : Value} (h : Stands X.K H tieD v t) :
    ∃ T u1 u2 u3, v = .ref T ∧ IsTup s.heap T #[.str t.1 u1, .str t.2.1 u2, .int t.2.2 u3] := by
  obtain ⟨x, rx, d⟩ := h
  cases d with
  | @tup a xs ds hq ha =>
    cases ha with
    | cons d1 r1 =>
      cases r1 with
      | cons d2 r2 =>
        cases r2 with
        | cons d3 r3 =>
          cases r3
          cases d1
          cases d2
          cases d3
          cases rx
          obtain ⟨its, rv, ht, _⟩ := I.tuple hq
          cases rv with
          | cons e1 q1 =>
            cases q1 with
            | cons e2 q2 =>
              cases q2 with
              | cons e3 q3 =>
                cases q3
                obtain ⟨u1, rfl⟩ := e1
                obtain ⟨u2, rfl⟩ := e2
                obtain ⟨u3, rfl⟩ := e3
                exact ⟨a, u1, u2, u3, rfl, ht⟩
/-- sorted(xs, key=rank) of ties -/
def rSortRank (K : PySem.W.Frag) (fR : Addr) : List V → List V → Hp → VK → Prop := fun vs zs H Q => ∃ (a : Addr) (xs : List V) (ts : List Tie), vs = [.ref a] ∧ zs = [.ref fR] ∧ (SqL K H a xs ∨ SqT K H a xs) ∧
  DpAll K H xs (ts.map tieD) ∧ ∀ (p : Addr) (ys : List V) (cs : List Tie), H p = none → cs.Perm ts → DpAll K H ys (cs.map tieD) → Q (.ref p) (upd H p (.lst ys))
theorem cr_sortRank {X : Cx} {fR : Addr} {fd : FuncData} {n : Nat} (F : Fun X.K "rank" "rank" sRank fR fd) (hr : Room n X.A) : CallRK X (.builtin "sorted") [Str.ofString "key"] (rSortRank X.K fR) := by
  intro pins s σ H vs zs us ws Q I r rz h
  obtain ⟨a, xs, ts, rfl, rfl, hs, dp, q⟩ := h
  obtain ⟨u, rfl, ru⟩ := vals1 r
  cases ru
  obtain ⟨w1, rfl, e1⟩ := vals1 rz
  obtain rfl : w1 = Value.ref fR := e1
  have run : ∀ (its : List Value) (hz : xs.length ≤ sizeLine) (rv : Vals xs its)
      (col : ∀ (R : List Value → Shared → Prop) (E' : Value → Shared → Prop), (∀ h' tk, (∀ b o, s.heap.get? b = some o → h'.get? b = some o) → R its { s with heap := h', toks := tk }) → wpAny (model X.prog X.w) X.A.in1 (collect (.ref a)) R E' s),
      wpAny (model X.prog X.w) X.A (call (.builtin "sorted") [.ref a] [(Str.ofString "key", .ref fR)]) (EP X pins σ Q) X.xe s := by
    intro its hz rv col
    have hl := rv.length
    have e0 := stands_of tieD dp rv
    refine sorted_via (by omega) (PyProof.Rows.ksk_s1 _ _) col fun h' tk E' k => ?_
    have I1 : Inv X pins σ H { s with heap := h', toks := tk } := I.kept k
    have I2 : Inv X pins σ H { s with heap := h'.push (seqObj "list" its.toArray 0), toks := tk } := I1.kept (t' := tk) fun b o e => Heap.get?_push_of_some _ e
    have new : ∀ b, b < h'.objs.size → b ≠ h'.objs.size := fun b hb e => by rw [e] at hb; exact Nat.lt_irrefl _ hb
    have ho : (h'.push (seqObj "list" its.toArray 0)).get? h'.objs.size = some (seqObj "list" its.toArray 0) := Heap.get?_push_size _ rfl
    refine PySem.W.list_sort_key_data (s := { s with heap := h'.push (seqObj "list" its.toArray 0), toks := tk }) (A := X.A.in1) (b := false) (R := Stands X.K H tieD) rankD ho e0 (rank_alike ts) (rank_sortable ts) (by rw [← e0.length]; omega) ?hu
      (PyProof.Rows.ksk_l1 _ _) (PyProof.Rows.ksk_t1 _ _) ?turn ?hq
    case hu =>
      intro t _
      have h1 := rank_depth t
      have h2 := hr.units
      show X.A.units + 1 + 1 + (rankD t).depth < cLine
      omega
    case turn =>
      intro v t hv _ g tk2 kp
      obtain ⟨T, u1, u2, u3, rfl, ht⟩ := tie_vals I1 hv
      have up : ∀ b o, h'.get? b = some o → g.get? b = some o := fun b o e => kp b o (new b (Heap.lt_size e)) (Heap.get?_push_of_some _ e)
      have ht2 : IsTup g T #[.str t.1 u1, .str t.2.1 u2, .int t.2.2 u3] := by
        obtain ⟨o, ho, hc, n, hd⟩ := ht
        exact ⟨o, up _ _ ho, hc, n, hd⟩
      exact rank_turn F (s := { s with heap := g, toks := tk2 }) (I1.kIn.keeps up) (I1.nolimit.keeps up) (by have := hr.dp; show X.A.depth < _; omega) ht2
    case hq =>
      intro out c h3 tk3 kp he hout eo
      obtain ⟨ys, ry, dy⟩ := of_stands tieD eo
      obtain ⟨f1, _⟩ := le_facts rankD ts
      have hlen : ys.length ≤ sizeLine := by rw [ry.length, hout, ← e0.length]; omega
      have hn : H h'.objs.size = none := I1.hok.fresh (Nat.le_refl _)
      exact ⟨.ref h'.objs.size, upd H h'.objs.size (.lst ys), I1.laid (t' := tk3) (fun b u e => kp b u (new b (Heap.lt_size e)) (Heap.get?_push_of_some _ e)) (Nat.le_refl _) ⟨hlen, out, c, ry, he⟩, rfl, q _ ys _ hn f1 dy⟩
  show wpAny _ _ (call (.builtin "sorted") [.ref a] [(Str.ofString "key", .ref fR)]) _ _ _
  rcases hs with hs | hs
  · obtain ⟨its, rv, pl, hz⟩ := I.list hs
    obtain ⟨o, ho, hc, n, hd⟩ := pl.isList
    have hl := rv.length
    refine run its hz rv (fun R E' hR => wpAny_collect_seq a (.inl rfl) ho hc hd (fun h' k => ?_) (by rw [List.size_toArray]; omega))
    have e : its.toArray.toList = its := by simp
    rw [e]
    exact hR h' s.toks k
  · obtain ⟨its, rv, ⟨o, ho, hc, n, hd⟩, hz⟩ := I.tuple hs
    have hl := rv.length
    refine run its hz rv (fun R E' hR => wpAny_collect_seq a (.inr rfl) ho hc hd (fun h' k => ?_) (by rw [List.size_toArray]; omega))
    have e : its.toArray.toList = its := by simp
    rw [e]
    exact hR h' s.toks k
end L2.T
set_option maxHeartbeats 2000000
/-! min, max of two texts; in over tuples of data, <= of data; a dict by tuples: pop, != {}; list.remove of a text, count and index of truths. -/
namespace L2.T
open PySem PySem.Spec PyProof.Rows
open PySem.W (dataLt dataLe alike)
section
variable {prog : Program} {w : World} {A : Around} {E : Value → Shared → Prop} {s : Shared}
def twoS (x y : Str) (i : Nat) : Str := if i = 0 then x else y
theorem twoS_at {x y : Str} {t u : Tok} {i : Nat} {v : Value} (h : (#[Value.str x t, Value.str y u] : Array Value)[i]? = some v) : ∃ k, v = .str (twoS x y i) k := by
  match i, h with
  | 0, h => exact ⟨t, (Option.some.inj h).symm⟩
  | 1, h => exact ⟨u, (Option.some.inj h).symm⟩
  | n + 2, h => simp at h
theorem best_two {bt : Nat → Nat → Bool} : argBest bt 1 = if bt 1 0 = true then 1 else 0 := by
  show (if bt 1 (argBest bt 0) then 1 else argBest bt 0) = _
  rfl
theorem min_two_str {x y : Str} {t u : Tok} {Q : Value → Shared → Prop} (hh : A.handled = none)
    (h : ∀ h' tk, (∀ c o, s.heap.get? c = some o → h'.get? c = some o) → Q (if y.cps.toList < x.cps.toList then .str y u else .str x t) { s with heap := h', toks := tk }) :
    wpAny (model prog w) A (call (.builtin "min") [.str x t, .str y u]) Q E s := by
  have h1 : (s.heap.push { cls := .type "tuple", data := .seq #[.str x t, .str y u] }).IsTuple s.heap.objs.size #[.str x t, .str y u] := ⟨_, Heap.get?_push_size _ rfl, rfl, 0, rfl⟩
  have z1 : (s.heap.push { cls := .type "tuple", data := .seq #[.str x t, .str y u] }).objs.size = s.heap.objs.size + 1 := Heap.size_push ..
  refine call_min_two (wpAny_pyIter_tuple h1 ?_)
  refine ⟨_, [_, s.heap.objs.size], [_], _, _, _, fun i j => decide ((twoS x y i).cps.toList < (twoS x y j).cps.toList), rfl,
    Walks.tuple (A := A.in1) hh _ s.heap.objs.size (by rw [z1]; exact Nat.ne_of_lt (Nat.lt_succ_self _)) #[.str x t, .str y u], ⟨⟨_, Heap.get?_push_size _ rfl, rfl, rfl⟩, h1.push _⟩, fun c hc => ?_, (by show 0 < 2; decide), fun i j vi vj s' Q' E' hi hj q => ?_, fun v h' tk hP hk => ?_⟩
  · show c < ((s.heap.push _).push _).objs.size
    rw [Heap.size_push, z1]
    have z2 : c = s.heap.objs.size + 1 ∨ c = s.heap.objs.size := by
      simp only [List.mem_cons, List.not_mem_nil, or_false] at hc
      rcases hc with e | e
      · left; rw [e]; exact z1
      · right; exact e
    rcases z2 with e | e
    · rw [e]; exact Nat.lt_succ_self _
    · rw [e]; exact Nat.lt_succ_of_lt (Nat.lt_succ_self _)
  · obtain ⟨k1, rfl⟩ := twoS_at hi
    obtain ⟨k2, rfl⟩ := twoS_at hj
    exact PyProof.Rows.lt_str (Q := Q') q
  · have old : ∀ c o, s.heap.get? c = some o → h'.get? c = some o := fun c o e => by
      refine hk c o (fun hm => ?_) (Heap.get?_push_of_some _ (Heap.get?_push_of_some _ e))
      have e1 := List.mem_singleton.mp hm
      have l1 := Heap.lt_size e
      rw [e1, z1] at l1
      exact Nat.lt_irrefl _ (Nat.lt_of_succ_lt l1)
    have q := h h' tk old
    have hP' : (#[Value.str x t, Value.str y u] : Array Value)[argBest (fun i j => decide ((twoS x y i).cps.toList < (twoS x y j).cps.toList)) 1]? = some v := hP
    rw [best_two] at hP'
    by_cases c : y.cps.toList < x.cps.toList
    · rw [if_pos (show decide ((twoS x y 1).cps.toList < (twoS x y 0).cps.toList) = true from decide_eq_true c)] at hP'
      rw [if_pos c] at q
      have ev : Value.str y u = v := Option.some.inj hP'
      rw [← ev]; exact q
    · rw [if_neg (show ¬ decide ((twoS x y 1).cps.toList < (twoS x y 0).cps.toList) = true from fun z => c (of_decide_eq_true z))] at hP'
      rw [if_neg c] at q
      have ev : Value.str x t = v := Option.some.inj hP'
      rw [← ev]; exact q
theorem max_two_str {x y : Str} {t u : Tok} {Q : Value → Shared → Prop} (hh : A.handled = none)
    (h : ∀ h' tk, (∀ c o, s.heap.get? c = some o → h'.get? c = some o) → Q (if x.cps.toList < y.cps.toList then .str y u else .str x t) { s with heap := h', toks := tk }) :
    wpAny (model prog w) A (call (.builtin "max") [.str x t, .str y u]) Q E s := by
  have h1 : (s.heap.push { cls := .type "tuple", data := .seq #[.str x t, .str y u] }).IsTuple s.heap.objs.size #[.str x t, .str y u] := ⟨_, Heap.get?_push_size _ rfl, rfl, 0, rfl⟩
  have z1 : (s.heap.push { cls := .type "tuple", data := .seq #[.str x t, .str y u] }).objs.size = s.heap.objs.size + 1 := Heap.size_push ..
  refine call_max_two (wpAny_pyIter_tuple h1 ?_)
  refine ⟨_, [_, s.heap.objs.size], [_], _, _, _, fun i j => decide ((twoS x y j).cps.toList < (twoS x y i).cps.toList), rfl,
    Walks.tuple (A := A.in1) hh _ s.heap.objs.size (by rw [z1]; exact Nat.ne_of_lt (Nat.lt_succ_self _)) #[.str x t, .str y u], ⟨⟨_, Heap.get?_push_size _ rfl, rfl, rfl⟩, h1.push _⟩, fun c hc => ?_, (by show 0 < 2; decide), fun i j vi vj s' Q' E' hi hj q => ?_, fun v h' tk hP hk => ?_⟩
  · show c < ((s.heap.push _).push _).objs.size
    rw [Heap.size_push, z1]
    have z2 : c = s.heap.objs.size + 1 ∨ c = s.heap.objs.size := by
      simp only [List.mem_cons, List.not_mem_nil, or_false] at hc
      rcases hc with e | e
      · left; rw [e]; exact z1
      · right; exact e
    rcases z2 with e | e
    · rw [e]; exact Nat.lt_succ_self _
    · rw [e]; exact Nat.lt_succ_of_lt (Nat.lt_succ_self _)
  · obtain ⟨k1, rfl⟩ := twoS_at hi
    obtain ⟨k2, rfl⟩ := twoS_at hj
    exact PySem.P.gt_str (Q := Q') q
  · have old : ∀ c o, s.heap.get? c = some o → h'.get? c = some o := fun c o e => by
      refine hk c o (fun hm => ?_) (Heap.get?_push_of_some _ (Heap.get?_push_of_some _ e))
      have e1 := List.mem_singleton.mp hm
      have l1 := Heap.lt_size e
      rw [e1, z1] at l1
      exact Nat.lt_irrefl _ (Nat.lt_of_succ_lt l1)
    have q := h h' tk old
    have hP' : (#[Value.str x t, Value.str y u] : Array Value)[argBest (fun i j => decide ((twoS x y j).cps.toList < (twoS x y i).cps.toList)) 1]? = some v := hP
    rw [best_two] at hP'
    by_cases c : x.cps.toList < y.cps.toList
    · rw [if_pos (show decide ((twoS x y 0).cps.toList < (twoS x y 1).cps.toList) = true from decide_eq_true c)] at hP'
      rw [if_pos c] at q
      have ev : Value.str y u = v := Option.some.inj hP'
      rw [← ev]; exact q
    · rw [if_neg (show ¬ decide ((twoS x y 0).cps.toList < (twoS x y 1).cps.toList) = true from fun z => c (of_decide_eq_true z))] at hP'
      rw [if_neg c] at q
      have ev : Value.str x t = v := Option.some.inj hP'
      rw [← ev]; exact q
/-- d != {}, d any dict -/
theorem ne_void {a b : Addr} {oa ob : Obj} {es : Array DictEntry} {ep ep' : Nat} {Q : Value → Shared → Prop} (ha : (a == sysModules) = false) (hb : (b == sysModules) = false) (hoa : s.heap.get? a = some oa) (xa : oa.ExactDict) (hda : oa.data = .dict es ep)
    (hob : s.heap.get? b = some ob) (xb : ob.ExactDict) (hdb : ob.data = .dict #[] ep') (hu : A.units < cLine) (h : Q (.bool (!(es.size == 0))) s) : wpAny (model prog w) A (compareOp .NotEq (.ref a) (.ref b)) Q E s := by
  have ta : s.TypeIs (.ref a) "dict" := ⟨oa, hoa, xa.1⟩
  have tb : s.TypeIs (.ref b) "dict" := ⟨ob, hob, xb.1⟩
  refine wpAny_richCompare_same_room (op := .NotEq) ta tb PySem.F.slot_dict_ne (wpAny_call_entry PySem.F.slot_dict_ne ta PySem.F.entry_dict_ne ?_ (PySem.F.args_dict_ne_2 _ _)) hu
  show wpAny _ _ (Builtin.Dict.dictSlotArgs "__ne__" ⟨[.ref a, .ref b], []⟩ >>= _) _ _ s
  unfold Builtin.Dict.dictSlotArgs
  refine wpAny_bind (wpAny_bind (wpAny_notOrdered_dict ta (wpAny_pure ?_)))
  refine wpAny_bind (wpAny_isInstance (T := "dict") tb PySem.F.sub_dict_dict ?_)
  simp only [Bool.not_true, Bool.false_eq_true, if_false]
  refine wpAny_bind (wpAny_pure (wpAny_bind (wpAny_pure ?_)))
  unfold Builtin.Dict.samePairs Builtin.Dict.showsAll
  have fin : ∀ r : Bool, r = (es.size == 0) → Q (.bool (!r)) s := fun r e => by rw [e]; exact h
  rw [if_neg (by rw [ha]; decide), if_neg (by rw [hb]; decide)]
  refine wpAny_bind (wpAny_bind (wpAny_pure (wpAny_bind (wpAny_pure (wpAny_bind (wpAny_dictEntries hoa hda ?_))))))
  dsimp only
  refine wpAny_bind (wpAny_dictEntries hob hdb ?_)
  by_cases hz : es.size = 0
  · rw [if_neg (by rw [hz]; decide)]
    refine wpAny_bind (wpAny_dictEpoch hoa hda ?_)
    rw [hz, Std.Legacy.Range.forIn_eq_forIn_range']
    refine wpAny_bind ?_
    refine wpAny_pure (wpAny_pure (wpAny_pure ⟨_, rfl, (fun x => nomatch x), ?_⟩))
    exact fin true (by rw [hz]; rfl)
  · rw [if_pos (by simpa using hz)]
    refine wpAny_bind (wpAny_rule (wpAny_pure (wpAny_pure ⟨_, rfl, (fun x => nomatch x), ?_⟩)))
    exact fin false (by simpa using hz)
end
end L2.T
set_option maxHeartbeats 2000000
namespace L2.T
open PySem PySem.Spec PyProof.Rows
open PySem.W (dataLt dataLe alike)
open Thin (mnS mxS)
section
variable {X : Cx}
theorem call_minS (hc : X.calm = true) : CallR X (.builtin "min") (fun xs H Q => ∃ x y, xs = [.str x, .str y] ∧ Q (.str (mnS x y)) H) := by
  intro pins s σ H xs us Q I r h
  obtain ⟨x, y, rfl, q⟩ := h
  obtain ⟨u1, u2, rfl, ⟨t, rfl⟩, ⟨t', rfl⟩⟩ := vals2 r
  refine min_two_str (I.ok.hd hc) fun h' tk k => ⟨_, H, I.kept k, ?_, q⟩
  show RelV (.str (if Thin.sLt y x then y else x)) _
  by_cases c : y.cps.toList < x.cps.toList
  · rw [if_pos c, if_pos (show Thin.sLt y x from c)]; exact ⟨_, rfl⟩
  · rw [if_neg c, if_neg (show ¬ Thin.sLt y x from c)]; exact ⟨_, rfl⟩
theorem call_maxS (hc : X.calm = true) : CallR X (.builtin "max") (fun xs H Q => ∃ x y, xs = [.str x, .str y] ∧ Q (.str (mxS x y)) H) := by
  intro pins s σ H xs us Q I r h
  obtain ⟨x, y, rfl, q⟩ := h
  obtain ⟨u1, u2, rfl, ⟨t, rfl⟩, ⟨t', rfl⟩⟩ := vals2 r
  refine max_two_str (I.ok.hd hc) fun h' tk k => ⟨_, H, I.kept k, ?_, q⟩
  show RelV (.str (if Thin.sLt x y then y else x)) _
  by_cases c : x.cps.toList < y.cps.toList
  · rw [if_pos c, if_pos (show Thin.sLt x y from c)]; exact ⟨_, rfl⟩
  · rw [if_neg c, if_neg (show ¬ Thin.sLt x y from c)]; exact ⟨_, rfl⟩
def rInT (K : PySem.W.Frag) : R2 := fun x y H Q => ∃ d ds, Dp K H x d ∧ Dp K H y (.tuple ds) ∧ SeqAt.shaped d = true ∧ SeqAt.shaped (.tuple ds) = true ∧ Q (.bl (ds.any fun z => PyData.eqv z d)) H
def rNotInT (K : PySem.W.Frag) : R2 := fun x y H Q => ∃ d ds, Dp K H x d ∧ Dp K H y (.tuple ds) ∧ SeqAt.shaped d = true ∧ SeqAt.shaped (.tuple ds) = true ∧ Q (.bl (!ds.any fun z => PyData.eqv z d)) H
theorem op_inT (hu : X.A.units + 65 < cLine) : OpR X (compareOp .In) (rInT X.K) := by
  intro pins s σ H x y v u Q I rx ry ⟨d, ds, hd, he, sd, se, q⟩
  obtain ⟨as, r1⟩ := Dp.reads I d x v hd rx
  obtain ⟨bs, r2⟩ := Dp.reads I (.tuple ds) y u he ry
  have c1 := SeqAt.canLay_of_shaped se
  exact SeqAt.in_tuple_reads r2 r1 (by simpa [PyData.canLay0] using c1) (SeqAt.canLay_of_shaped sd) (room_in_shaped sd hu) ⟨.bl _, H, I, rfl, q⟩
theorem op_notInT (hu : X.A.units + 65 < cLine) : OpR X (compareOp .NotIn) (rNotInT X.K) := by
  intro pins s σ H x y v u Q I rx ry ⟨d, ds, hd, he, sd, se, q⟩
  obtain ⟨as, r1⟩ := Dp.reads I d x v hd rx
  obtain ⟨bs, r2⟩ := Dp.reads I (.tuple ds) y u he ry
  have c1 := SeqAt.canLay_of_shaped se
  exact SeqAt.notIn_tuple_reads r2 r1 (by simpa [PyData.canLay0] using c1) (SeqAt.canLay_of_shaped sd) (room_in_shaped sd hu) ⟨.bl _, H, I, rfl, q⟩
def rLeD (K : PySem.W.Frag) : R2 := fun x y H Q => ∃ d e, Dp K H x d ∧ Dp K H y e ∧ alike d e = true ∧ d ≠ .none ∧ d.depth ≤ 8 ∧ Q (.bl (!dataLt e d)) H
theorem op_leD (hu : X.A.units + 64 < cLine) : OpR X (compareOp .LtE) (rLeD X.K) := by
  intro pins s σ H x y v u Q I rx ry ⟨d, e, hd, he, al, nn, dep, q⟩
  obtain ⟨as, r1⟩ := Dp.reads I d x v hd rx
  obtain ⟨bs, r2⟩ := Dp.reads I e y u he ry
  exact PySem.W.le_data r1 r2 al nn (by omega) ⟨.bl _, H, I, rfl, q⟩
/-- a dict by tuples, not the empty one -/
def rNeVoid : R2 := fun x y H Q => ∃ a b kvs, x = .ref a ∧ y = .ref b ∧ H a = some (.dT kvs) ∧ H b = some (.dK []) ∧ Q (.bl (!(kvs.length == 0))) H
theorem op_neVoid (hu : X.A.units < cLine) : OpR X (compareOp .NotEq) rNeVoid := by
  intro pins s σ H x y v u Q I rx ry ⟨a, b, kvs, ex, ey, ha, hb, q⟩
  subst ex
  subst ey
  cases rx
  cases ry
  obtain ⟨_, la, xs, rel, oa, es, ep, hoa, xa, hda, he, _⟩ := (show ObjOk X.prog X.w H s.heap a (.dT kvs) from I.hok a _ ha)
  obtain ⟨_, lb, vs, kv, ob, es', ep', hob, xb, hdb, hkb, hpb, _⟩ := (show ObjOk X.prog X.w H s.heap b (.dK []) from I.hok b _ hb)
  have e0 : vs = [] := by cases kv; rfl
  subst e0
  have z0 : es' = #[] := by
    have h1 := hpb.length
    simp only [Array.length_toList, List.length_nil] at h1
    exact Array.size_eq_zero_iff.mp h1
  subst z0
  have n1 : es.size = kvs.length := by rw [size_of_entries he]; exact (Paired.length rel).symm
  refine ne_void la lb hoa xa hda hob xb hdb hu ⟨.bl _, H, I, rfl, ?_⟩
  rw [n1]
  exact q
/-- xs.remove(x) of texts: the first one goes -/
def rRemS : V → List V → Hp → VK → Prop := fun x xs H Q => ∃ (l : Addr) (zs : List Str) (z : Str), x = .ref l ∧ xs = [.str z] ∧ H l = some (.lst (zs.map V.str)) ∧ z ∈ zs ∧ Q .non (upd H l (.lst ((zs.erase z).map V.str)))
theorem firstS : ∀ {zs : List Str} {z : Str}, z ∈ zs → ∃ j, zs[j]? = some z ∧ (∀ i, i < j → zs[i]? ≠ some z) ∧ zs.eraseIdx j = zs.erase z
  | [], z, h => nomatch h
  | a :: r, z, h => by
    by_cases e : a = z
    · refine ⟨0, by rw [e]; rfl, fun i hi => absurd hi (Nat.not_lt_zero _), ?_⟩
      rw [e, List.erase_cons_head]; rfl
    · obtain ⟨j, h2, h3, h4⟩ := firstS ((List.mem_cons.mp h).resolve_left fun q => e q.symm)
      refine ⟨j + 1, h2, fun i hi => ?_, ?_⟩
      · cases i with
        | zero => intro q; exact e (Option.some.inj q)
        | succ i => exact h3 i (Nat.lt_of_succ_lt_succ hi)
      · rw [List.erase_cons_tail (by simpa using e), ← h4]; rfl
theorem eraseIdx_mapS (j : Nat) (zs : List Str) : (zs.map V.str).eraseIdx j = (zs.eraseIdx j).map V.str := by
  induction zs generalizing j with
  | nil => simp
  | cons a r ih => cases j with
    | zero => rfl
    | succ j => simp [ih j]
theorem mt_removeS : MtM X "list.remove" rRemS := by
  intro pins s σ H x xs v us Q I rx rxs ⟨l, zs, z, ex, exs, hH, hz, q⟩
  subst ex
  subst exs
  cases rx
  obtain ⟨u, eu, t, et⟩ := vals1 rxs
  subst eu
  subst et
  obtain ⟨lz, its, n, r, hl, e⟩ := I.lstM hH
  obtain ⟨j, hj, hno, he⟩ := firstS hz
  rw [List.length_map] at hl lz
  have hS := r.strs
  have fl : (zs.map V.str).all flatV = true := by simp [flatV]
  have jl : j < its.length := by have := (List.getElem?_eq_some_iff.mp hj).1; omega
  have at_ : ∀ (m : Nat) (hm : m < its.length), ∃ tm, its[m] = .str (zs[m]'(by omega)) tm := fun m hm => by
    have hm2 : m < zs.length := by omega
    obtain ⟨u, hu, ru⟩ := r.get (i := m) (x := .str zs[m]) (by rw [List.getElem?_map, List.getElem?_eq_getElem hm2]; rfl)
    obtain ⟨tm, etm⟩ := ru
    rw [List.getElem?_eq_getElem hm] at hu
    exact ⟨tm, (Option.some.inj hu).trans etm⟩
  refine call_meets PySem.F.slot_list_remove ⟨_, e, rfl⟩ PySem.F.entry_list_remove (PySem.F.args_list_remove_2 _ _)
    (MeetsSeq.list_remove l its.toArray n (.str z t) (isStrOf z) (fun y hy => eq_isStrOf z t hS y (by simpa using hy)) j (by simpa using jl) ?_ (fun m hm hmj => ?_) (by rw [List.size_toArray]; omega)) ⟨e, ?_⟩
  · obtain ⟨tm, etm⟩ := at_ j jl
    have ez : zs[j]'(by omega) = z := (List.getElem?_eq_some_iff.mp hj).2
    show isStrOf z its[j] = true
    rw [etm, ez]
    simp [isStrOf]
  · have hm2 : m < its.length := by simpa using hm
    obtain ⟨tm, etm⟩ := at_ m hm2
    show isStrOf z its[m] = false
    rw [etm]
    have ne : zs[m]'(by omega) ≠ z := fun q => hno m hmj (by rw [List.getElem?_eq_getElem (by omega), q])
    simp [isStrOf, ne]
  · have rr := r.eraseIdx j
    rw [eraseIdx_mapS, he] at rr
    refine ⟨.non, _, I.lset (its' := its.eraseIdx j) (t' := s.toks) hH e ?_ rr ?_, rfl, q⟩
    · show its.toArray.eraseIdxIfInBounds j = (its.eraseIdx j).toArray
      rw [List.eraseIdxIfInBounds_toArray]
    · rw [List.length_map]
      have := List.length_erase_le (a := z) (l := zs)
      omega
/-- xs.count(b) of truths -/
def rCntB (K : PySem.W.Frag) : V → List V → Hp → VK → Prop := fun x xs H Q => ∃ (p : Addr) (bs : List Bool) (k : Bool), x = .ref p ∧ xs = [.bl k] ∧ SqL K H p (bs.map V.bl) ∧ Q (.int (bs.count k : Nat)) H
theorem mt_countB : MtR X "list.count" (rCntB X.K) := by
  intro pins s σ H x xs v us Q I rx rxs ⟨p, bs, k, ex, exs, hs, q⟩
  subst ex
  subst exs
  cases rx
  obtain ⟨u, eu, ru⟩ := vals1 rxs
  subst eu
  cases ru
  obtain ⟨its, rv, ⟨⟨cls, dd, data, sl⟩, n, ho, hc, hdn, hd⟩, hlen⟩ := I.list hs
  simp only at hc hd
  subst hc hd
  have fl : (bs.map V.bl).all flatV = true := by simp [flatV]
  refine call_meets PySem.F.slot_list_count ⟨_, ho, rfl⟩ PySem.F.entry_list_count (PySem.F.args_list_count_2 _ _)
    (SeqAt.list_countAt p its.toArray n dd sl (.bool k) (eqU (.bl k))) ⟨ho, fun y hy => mem_eqAt (x := .bl k) rfl rfl rv fl y (by simpa using hy), ?_⟩
  have ec : ∀ {us : List Value} {cs : List Bool}, Vals (cs.map V.bl) us → us.countP (eqU (.bl k)) = cs.count k := by
    intro us cs
    induction cs generalizing us with
    | nil => intro r; cases r; rfl
    | cons c cs ih =>
      intro r
      cases r with
      | cons r1 r2 =>
        rw [List.countP_cons, List.count_cons, ih r2, eqU_of r1 rfl]
        rfl
  refine ⟨.int (bs.count k : Nat), H, I.tok _, ⟨s.toks, ?_⟩, q⟩
  show Value.int ((its.toArray.toList.countP (eqU (.bl k)) : Nat) : Int) s.toks = Value.int ((bs.count k : Nat) : Int) s.toks
  rw [show its.toArray.toList = its from rfl, ec rv]
/-- repr(x) of data -/
def rRepr (K : PySem.W.Frag) : List V → Hp → VK → Prop := fun xs H Q => ∃ (a : Addr) (d : PyData), xs = [.ref a] ∧ Dp K H (.ref a) d ∧ d.showable = true ∧ d.hasDict = false ∧ d.depth ≤ 8 ∧ d.shown.length ≤ sizeLine ∧ Q (.str d.shown) H
theorem call_reprD (hg : X.A.guards = some []) (hu : X.A.units + 64 < cLine) : CallR X (.builtin "repr") (rRepr X.K) := by
  intro pins s σ H xs us Q I r ⟨a, d, exs, hd, sh, nd, dep, len, q⟩
  subst exs
  obtain ⟨u, eu, ru⟩ := vals1 r
  subst eu
  cases ru
  obtain ⟨as, rd⟩ := Dp.reads I d _ _ hd rfl
  exact repr_of_reads' rd sh (fun z => by rw [nd] at z; cases z) hg (by omega) (fun _ _ e => e) (fun h' u tk k => ⟨.str d.shown, H, I.kept k, ⟨u, rfl⟩, q⟩) len
end
end L2.T
set_option maxHeartbeats 2000000
namespace L2.T
open PySem PySem.Spec PyProof.Rows
section
variable {X : Cx}
/-- d.pop(k), d a dict by tuples, k there -/
def rPopT1 : V → List V → Hp → VK → Prop := fun x xs H Q => ∃ (a : Addr) (kvs : List (List Key × V)) (k : List Key) (b : Addr) (v : V), x = .ref a ∧ xs = [.ref b] ∧ H a = some (.dT kvs) ∧ H b = some (.tup (k.map kV)) ∧
  valV kvs k = some v ∧ Q v (upd H a (.dT (dropK kvs k)))
theorem mt_popT1 (hu : X.A.units + 1 < cLine) : MtR X "dict.pop" rPopT1 := by
  intro pins s σ H x xs v us Q I rx rxs ⟨a, kvs, k, b, v0, ex, exs, ha, hb, hv, q⟩
  subst ex
  subst exs
  cases rx
  obtain ⟨u1, e1, r1⟩ := vals1 rxs
  subst e1
  cases r1
  obtain ⟨z, hd, ys, rel, dd⟩ := dt_of I.hok ha
  have r := rel.val k
  rw [hv] at r
  obtain ⟨u, eu, ru⟩ := RelO.some_of r
  cases hp : atKey ys k with
  | none => rw [hp] at eu; cases eu
  | some p =>
    rw [hp] at eu
    have ep : p.2 = u := Option.some.inj eu
    refine call_pop_heap (knd := tupleKind (mixKind X.prog X.w)) (k := k) (.inl rfl) (PySem.F.args_dict_pop_2 _ _) (tupleKind_room_in1 hu) (key_of I.hok hb) hd dd hp (fun h' dd' hs => ?_) (by rw [← Paired.length rel]; exact z)
    obtain ⟨o, es, ep2, hq, h2, h3, h4, _, h5⟩ := dd'
    rw [ep]
    exact ⟨v0, upd H a (.dT (dropK kvs k)), d_write I (by rw [ha]; exact True.intro) hs ⟨o, hq⟩ (show ObjOk X.prog X.w _ h' a (.dT (dropK kvs k)) from ⟨Nat.le_trans (dropK_le kvs k) z, hd, _, (L2.DX.KT_drop k rel).keeps (fun c zs ec => (by rw [upd_ne (ne_of ec ha (fun z => nomatch z))]; exact ec)), o, es, ep2, hq, h2, h3, h4, h5⟩), ru, q⟩
end
end L2.T
set_option maxHeartbeats 2000000
/-! A def where no repr runs around (the law itself), and the law's end over such a promise. -/
namespace L2.T
open PySem PySem.Spec PyProof.Rows
/-- what a def keeps, called where no guard stands around -/
def FnG (P : Program) (w : World) (K : PySem.W.Frag) (mg : Str → Option Value) (base : Heap) (k : Nat) (f : Addr) (fd : FuncData) (ps : List Str) (sp : Sp) : Prop :=
  ∀ (A : Around) (outer : List Env) (s : Shared) (H : Hp) (args : Args) (us : List Value) (vs : List V) (Q : VK), Room k A → A.guards = some [] → Env0 P w K mg base A outer s H →
    BindsTo s fd args (ps.zip us) → Vals vs us → sp vs H Q E0 → codeAny (model P w) A (.call (.ref f) args) (CR CX0 outer P w H s Q E0) s
theorem guards_deeper {A : Around} {env : Env} (h : A.guards = some []) : (A.deeper env).guards = some [] := h
section
variable {P : Program} {w : World} {K : PySem.W.Frag} {mg : Str → Option Value} {base : Heap}
theorem Fun_okG {x qual : Str} {st : Stmt} {f : Addr} {fd : FuncData} {N ps : List Str} {k : Nat} {sp : Sp} (F : Fun K x qual st f fd) (S : FnScope N ps (defScope st)) (len : ∀ vs H Q E, sp vs H Q E → vs.length = ps.length)
    (hbody : ∀ (cdv : Value) (A : Around) (outer : List Env) (s : Shared) (H : Hp) (vs : List V) (Q : VK), Room k (A.deeper (envOfC qual (defScope st) s.heap.objs.size f cdv)) → (A.deeper (envOfC qual (defScope st) s.heap.objs.size f cdv)).guards = some [] → sp vs H Q E0 →
      ∃ t, PSs (cxOf CX0 P w K mg base N qual (defScope st) f cdv A outer s H E0).nox (defBody st) t ∧ t { nx := fun _ H' => Q .non H', rt := Q } (start N vs) H) : FnG P w K mg base (k + 1) f fd ps sp := by
  obtain ⟨oc, od, kV, doc, pm, an, cdv, ct, osl, rfl, lk, hcd⟩ := F.ex
  intro A outer s H args us vs Q hr hg e0 hb rv hsp
  have up : ∀ b o, base.get? b = some o → s.heap.get? b = some o := fun b o e => (e0.bs b o e).1
  have kin := e0.mod.kin.keeps up
  have lim := e0.mod.nolimit.keeps up
  refine codeAny_call_function hr.depth (kin _ _ lk) rfl S.co S.gen rfl (PySem.W.codeRec_of kin hcd) (hb _ _ _ _ ?_)
  refine wpAny_newFunctionEnv_cells S.kind ?_ fun env he s1 x => ?_
  · intro y hy
    obtain ⟨n, v⟩ := y
    rcases S.par n (List.of_mem_zip hy).1 with q | q
    · exact .inl q
    · exact .inr ⟨q, PySem.W.cellsFrom_some _ _ _ (.inl q)⟩
  · subst he
    refine ⟨lim.keeps x.toInCall.keep, codeAny_func ?_⟩
    obtain ⟨t, ht, hq⟩ := hbody cdv A outer s H vs Q (hr.deeper _) (guards_deeper hg) hsp
    have I := inv_start (CX := CX0) (E := E0) (mg := mg) (K := K) (base := base) S hr.hd e0 (len _ _ _ _ hsp) rv x
    refine wpAny_mono (ht.nox.run [] s1 (start N vs) H _ I hq) ?_ fun e s' hs => hs
    intro fl s' hs
    match fl, hs with
    | .ret u, ⟨v, σ', H', J, rv', q⟩ => exact ⟨v, H', J.os, J.bare, J.base, J.hok, rv', q⟩
    | .next, ⟨σ', H', J, q⟩ => exact ⟨.non, H', J.os, J.bare, J.base, J.hok, rfl, q⟩
    | .brk, ⟨_, _, _, q⟩ => exact q.elim
    | .cont, ⟨_, _, _, q⟩ => exact q.elim
/-- the law's call, from a promise that may lean on the guards -/
theorem law_callG {mb : Str → Option Value} {k : Nat} {fa a : Addr} {fd : FuncData} {x : Str} {sp : Sp} {s₁ : Shared} {vs : List Value} {ns : List Int} (KX : K.In s₁.heap) (hns : s₁.heap.Ns mainGlobals mg) (hb : s₁.heap.Ns builtinsNs mb)
    (hbb : ∀ x : Str, x ≠ "__name__" → mb x = bootBuiltins x) (hlim : s₁.heap.NoLimit) (hg : s₁.gens = #[]) (ha : s₁.heap.get? a = some { cls := .type "list", data := .seq vs.toArray }) (hi : IntsAre vs ns) (hl : ns.length ≤ sizeLine) (hr : Room k callerA)
    (F : ∀ base : Heap, K.In base → base.Ns mainGlobals mg → FnG P w K mg base k fa fd [x] sp) (hbind : ∀ (s : Shared) (u : Value), BindsTo s fd ⟨[u], []⟩ [(x, u)])
    (hsp : ∀ H : Hp, Only H → SqL K H a (ns.map V.int) → sp [.ref a] H (fun v _ => v = .bl true) E0) :
    codeAny (model P w) callerA (.call (.ref fa) ⟨[.ref a], []⟩) (fun r s' => r = .ok (.ret (.bool true)) ∧ OldK s₁.heap s'.heap ∧ s'.os = s₁.os ∧ AllBare s'.gens) s₁ := by
  have rv := vals_ints hi
  have size := hi.length
  have main : ∀ H : Hp, Only H → SqL K H a (ns.map V.int) → HOk P w H s₁.heap → (∀ b u, H b = some u → b = a ∧ K.lookup a = none) →
      codeAny (model P w) callerA (.call (.ref fa) ⟨[.ref a], []⟩) (fun r s' => r = .ok (.ret (.bool true)) ∧ OldK s₁.heap s'.heap ∧ s'.os = s₁.os ∧ AllBare s'.gens) s₁ := by
    intro H only seq ok alone
    have dictFree : ∀ (b : Addr) (m : Str → Option Value), s₁.heap.Ns b m → (hidT s₁.heap H).Ns b m := by
      rintro b m ⟨o, es, ep, e, d, r⟩
      refine ⟨o, es, ep, hidT_get e ?_, d, r⟩
      cases q : H b with
      | none => rfl
      | some u =>
        obtain ⟨eb, _⟩ := alone b u q
        rw [eb, ha] at e
        have eo := Option.some.inj e
        rw [← eo] at d
        cases d
    have kinB : K.In (hidT s₁.heap H) := by
      intro b o e
      refine hidT_get (KX b o e) ?_
      cases q : H b with
      | none => rfl
      | some u =>
        obtain ⟨eb, no⟩ := alone b u q
        rw [eb, no] at e
        cases e
    have modB : Mod K mg (hidT s₁.heap H) := ⟨kinB, dictFree _ _ hns, ⟨mb, dictFree _ _ hb, hbb⟩, by
      obtain ⟨mc, h1, h2⟩ := hlim
      exact ⟨mc, dictFree _ _ h1, h2⟩⟩
    have env : Env0 P w K mg (hidT s₁.heap H) callerA [] s₁ H := ⟨rfl, modB, fun b o e => of_hidT e, by rw [hidT_size]; exact Nat.le_refl _, trivial, (fun b z => nomatch (show b ∈ ([] : List Addr) from z)), ok, .of_eq hg⟩
    refine codeAny_mono (F _ kinB (dictFree _ _ hns) callerA [] s₁ H ⟨[.ref a], []⟩ [.ref a] [.ref a] _ hr rfl env (hbind s₁ (.ref a)) (.cons rfl .nil) (hsp H only seq)) ?_
    intro r s' h
    match r, h with
    | .ok (.ret u), ⟨v, H', os, bare, un, ok', rel, q⟩ =>
      have ev : v = .bl true := q
      rw [ev] at rel
      have eu : u = Value.bool true := rel
      refine ⟨by rw [eu], OldK.of_keep ?_, os, bare⟩
      intro b o e
      rcases only b with z | ⟨ob, xs, z⟩
      · exact un.keep b o e z (fun z => nomatch (show b ∈ ([] : List Addr) from z)) (by simp)
      · obtain ⟨g1, _⟩ := ok b _ z
        obtain ⟨g2, _⟩ := ok' b _ (un.frzs b ob _ z)
        rw [e] at g1
        rw [Option.some.inj g1]
        exact g2
  cases hk : K.lookup a with
  | some o =>
    have e := KX a o hk
    rw [ha] at e
    have eo := Option.some.inj e
    exact main (fun _ => none) (fun _ => .inl rfl) (.inr ⟨o, vs.toArray, _, hk, by rw [← eo], by rw [← eo], by rw [← eo], by rw [List.size_toArray, size]; exact hl, by simpa using rv⟩) (fun b u z => nomatch z) fun b u z => nomatch z
  | none =>
    have at_ : ∀ b u, (if b = a then some (HO.frz { cls := .type "list", data := .seq vs.toArray } (.lst (ns.map V.int))) else none) = some u → b = a ∧ u = HO.frz { cls := .type "list", data := .seq vs.toArray } (.lst (ns.map V.int)) := by
      intro b u z
      by_cases eb : b = a
      · rw [if_pos eb] at z
        exact ⟨eb, (Option.some.inj z).symm⟩
      · rw [if_neg eb] at z
        cases z
    refine main (fun b => if b = a then some (HO.frz { cls := .type "list", data := .seq vs.toArray } (.lst (ns.map V.int))) else none) ?_ (.inl (.inr ⟨_, if_pos rfl⟩)) ?_ fun b u z => ⟨(at_ b u z).1, hk⟩
    · intro b
      by_cases eb : b = a
      · exact .inr ⟨_, _, if_pos eb⟩
      · exact .inl (if_neg eb)
    · intro b u z
      obtain ⟨eb, eu⟩ := at_ b u z
      rw [eb, eu]
      exact ⟨ha, by rw [List.length_map]; exact hl, vs, _, rv, ha⟩
end
end L2.T
set_option maxHeartbeats 2000000
/-! try: body, except x as n: suite, where what was caught stays known as a value. -/
namespace L2.T
open PySem PySem.Spec PyProof.Rows
/-- an error that was caught, of this class -/
def HeldE (cls : Value) (a : Addr) : HO := .ext fun h => ∃ (oe : Obj) (vs : Array Value), h.get? a = some oe ∧ Zc cls none oe ∧ oe.data = .fields vs
theorem heldE_ok {P : Program} {w : World} {H : Hp} {h : Heap} {a : Addr} {cls : Value} {oe : Obj} {vs : Array Value} (e : h.get? a = some oe) (z : Zc cls none oe) (d : oe.data = .fields vs) : ObjOk P w H h a (HeldE cls a) :=
  ⟨⟨oe, vs, e, z, d⟩, ⟨oe, e⟩, fun h1 h2 ⟨o1, v1, e1, z1, d1⟩ k => ⟨o1, v1, k _ e1, z1, d1⟩⟩
section
variable {X : Cx} {pins : List (Addr × Obj)} {σ : St} {H : Hp} {s : Shared}
/-- an object of ours, not tracked so far, becomes a tracked one -/
theorem Inv_track {a : Addr} {u : HO} (I : Inv X pins σ H s) (na : H a = none) (n0 : X.s_0.heap.get? a = none) (nL : a ≠ X.env.locals) (nC : ∀ x c, X.env.cells.lookup x = some c → c ≠ a)
    (nP : ∀ p ∈ X.pn ++ pins, p.1 ≠ a) (new : ObjOk X.prog X.w (upd H a u) s.heap a u) : Inv X pins σ (upd H a u) s := by
  have ne0 : ∀ b o, X.s_0.heap.get? b = some o → b ≠ a := fun b o e z => by
    rw [z, n0] at e
    cases e
  have old : ∀ b q, H b = some q → upd H a u b = some q := fun b q e => by
    rw [upd_ne (ne_of_none e na)]
    exact e
  have B := I.base
  refine ⟨I.ok, I.os, I.bare, ⟨B.keep, B.slot, fun b o e n hx => ?_, B.there, fun b xs e => old _ _ (B.tups b xs e), fun b o v e => old _ _ (B.frzs b o v e), fun b ps e => ?_⟩, I.loc, I.cell, ?_, fun x c e => ?_, fun p hp => ?_, fun b q e => ?_, I.len⟩
  · rw [upd_ne (ne0 b o e)]
    exact B.free b o e n hx
  · obtain ⟨m, q⟩ := B.tbls b ps e
    exact ⟨m, old _ _ q⟩
  · rw [upd_ne (Ne.symm nL)]
    exact I.free
  · rw [upd_ne (nC x c e)]
    exact I.freeC x c e
  · obtain ⟨e, n, r⟩ := I.pin p hp
    exact ⟨e, by rw [upd_ne (nP p hp)]; exact n, r⟩
  · by_cases hb : b = a
    · subst hb
      rw [upd_same] at e
      cases e
      exact new
    · rw [upd_ne hb] at e
      exact (I.hok b q e).stay (fun c v _ z => z) (fun c z => old _ _ z) fun c xs z => old _ _ z
end
/-- what the clause wishes of an exception of the body: slot i is the name's -/
def wAsT (K : PySem.W.Frag) (c : Value) (i : Nat) (ts : Addr → Value → TS) (D : Ends) : WX := fun cls d σ H =>
  PySem.W.exmOne K cls c = some true ∧ d = none ∧ ∀ a, H a = none →
    ts a cls { nx := fun σ' H' => D.nx (σ'.set i none) H', rt := D.rt, bk := fun σ' H' => D.bk (σ'.set i none) H', ct := fun σ' H' => D.ct (σ'.set i none) H' } (σ.set i (some (.ref a))) (upd H a (HeldE cls a))
section
variable {X : Cx} {x n : Str} {c : Value} {i : Nat} {body suite : List Stmt} {b₀ : Stmt} {np pos pos' : Pos} {tb : WX → TS} {ts : Addr → Value → TS}
theorem ps_try_asT (hs : X.stack = X.env :: X.outer) (hf : X.env.frame = some X.env.locals) (hx : X.ex = []) (hN : X.N.Nodup) (hi : X.N[i]? = some n) (hln : X.env.kindOf n = some .local) (hc : Names X x c)
    (hb : ∀ (W : WX) (pn : List (Addr × Obj)) (xe : Value → Shared → Prop), Takes (X.tr pn xe) W → PassesOwn (model X.prog X.w) X.A X.env xe → PSs (X.tr pn xe) body (tb W))
    (hsu : ∀ (a : Addr) (cls : Value) (pn : List (Addr × Obj)), PSs (X.suite a pn) (b₀ :: suite) (ts a cls)) :
    PS X (.Try body [.ExceptHandler (some (.Name x np)) (some n) (b₀ :: suite) pos'] [] [] pos) (fun D σ H => tb (wAsT X.K c i ts D) D σ H) := by
  refine ⟨fun pins s σ H D I h => ?_⟩
  have ok := I.ok
  have fr : X.A.frames = some (X.env :: X.outer) := by rw [ok.frames, hs]
  have loc : Loc X.env.scope n := .inl hln
  refine wpAny_Try_except (wpAny_mono ((hb (wAsT X.K c i ts D) (X.pn ++ pins) (fun e t₁ => wpAny (model X.prog X.w) X.A (noteFrame e X.env) (fun _ t₂ => wpAny (model X.prog X.w) X.A (setFlight e none) (fun _ t₃ =>
    wpAny (model X.prog X.w) X.A (handleBy e X.env [.ExceptHandler (some (.Name x np)) (some n) (b₀ :: suite) pos']) (SP X pins D) X.xe t₃) X.xe t₂) X.xe t₁) (fun u t' air => ?caught) PassesOwn.looking).run [] s σ H D (I.toTry _) h) (fun f t1 fin => ?ended) (fun e t1 z => z))
  case caught =>
    obtain ⟨a, B, sI, pins', σ', H', cls, d, rfl, J', nb, up, sky, na, os, ag, hyes, rfl, wish⟩ := air
    have J : Inv X pins σ' H' sI := J'.ofTry ok
    have sky' : Sky B (X.env :: X.outer) a (Zc cls none) X.env.locals t'.heap := by rw [← hs]; exact sky
    show wpAny (model X.prog X.w) X.A (noteFrame (.ref a) X.env) _ _ _
    refine Sky.land Zc.steady fr hf sky' fun h3 fl3 up3 => ?_
    have J3 : Inv X pins σ' H' { t' with heap := h3 } := J.landed nb fl3.1 (up.trans up3) os ag
    obtain ⟨oe3, vs3, he3, hz3, hd3⟩ := fl3.there
    have nfr : a ∉ frs (X.env :: X.outer) := fun hm => by
      obtain ⟨_, o', e', hnf⟩ := fl3.2.2.1.mem hm
      rw [he3] at e'; cases e'
      exact hnf _ hd3
    have nL : a ≠ X.env.locals := fun z => nfr (List.mem_filterMap.mpr ⟨X.env, List.mem_cons_self, by rw [hf, z]⟩)
    have nF : a ∉ X.fs := fun hm => by
      obtain ⟨e, he, q⟩ := List.mem_filterMap.mp hm
      exact nfr (List.mem_filterMap.mpr ⟨e, List.mem_cons_of_mem _ he, q⟩)
    have nI : sI.heap.get? a = none := by
      cases q : sI.heap.get? a with
      | none => rfl
      | some o =>
        have z := nb a o q (by rw [hs]; exact nfr)
        rw [fl3.2.1] at z
        cases z
    have n0 : X.s_0.heap.get? a = none := by
      cases q : X.s_0.heap.get? a with
      | none => rfl
      | some o =>
        obtain ⟨o', z⟩ := J.base.there a o q (by rw [hx]; exact fun z => nomatch z)
        rw [nI] at z
        cases z
    have nC : ∀ y k, X.env.cells.lookup y = some k → k ≠ a := fun y k e z => by
      obtain ⟨v, o, ho, _⟩ := J.cell y k e
      rw [z, nI] at ho
      cases ho
    have nP : ∀ p ∈ X.pn ++ pins, p.1 ≠ a := fun p hp z => by
      have e := (J.pin p hp).1
      rw [z, nI] at e
      cases e
    have S3 := J3.suite he3 hd3 na nL nF
    refine wpAny_handleBy_cons (codeAny_handlers_test ?_) (by intro q; cases q)
    have LT : PySem.W.Looks (model X.prog X.w) h3 (typeOf (.ref a)) cls := fun A Q E s k q => wpAny_typeOf_ref (k _ _ he3) (by rw [hz3.1]; exact q)
    have LM := PySem.W.exm_one (M := model X.prog X.w) J3.kIn LT hyes
    have test : ∀ {Q : Value → Shared → Prop} {E : Value → Shared → Prop}, Q c { t' with heap := h3 } → wpAny (model X.prog X.w) (X.A.mark (some (.ref a))) (eval (.Name x np) X.env) Q E { t' with heap := h3 } := fun {Q E} q => by
      obtain ⟨hg, hdbg, hm | ⟨hm, hv, hnn⟩⟩ := hc
      · exact ld_glob (X := X.suite a ((a, oe3) :: (X.pn ++ pins))) S3 hg hm q hdbg
      · exact ld_blt (X := X.suite a ((a, oe3) :: (X.pn ++ pins))) S3 hg hm hv q hnn hdbg
    refine test (LM.here (codeAny_handlers_suite_as ?_))
    refine HandSPX.lands_againZ fl3 fun h4 fl4 up4 => ?_
    have J4 : Inv X pins σ' H' { t' with heap := h4 } := J.landed nb fl4.1 ((up.trans up3).trans up4) os ag
    obtain ⟨oe4, vs4, he4, hz4, hd4⟩ := fl4.there
    have J5 : Inv X pins σ' (upd H' a (HeldE cls a)) { t' with heap := h4 } := Inv_track J4 na n0 nL nC nP (heldE_ok he4 hz4 hd4)
    have S5 : Inv (X.suite a (X.pn ++ pins)) [] σ' (upd H' a (HeldE cls a)) { t' with heap := h4 } :=
      ⟨J5.ok.suite _ _, J5.os, J5.bare, J5.base, J5.loc, J5.cell, J5.free, J5.freeC, fun p hp => J5.pin p (by rw [List.append_nil] at hp; exact hp), J5.hok, J5.len⟩
    refine store_ok (X := X.suite a (X.pn ++ pins)) (v := .ref a) S5 hN hi loc rfl (fun s5 S6 => ?_) (.inr hln)
    refine wpAny_mono ((hsu a cls (X.pn ++ pins)).run [] s5 _ _ _ S6 (wish a na)) (fun f s6 fin => ?_) (fun _ _ z => False.elim z)
    have back : ∀ {σ6 : St} {H6 : Hp}, Inv (X.suite a (X.pn ++ pins)) [] σ6 H6 s6 → Inv X pins σ6 H6 s6 := fun K =>
      ⟨ok, K.os, K.bare, K.base, K.loc, K.cell, K.free, K.freeC, fun p hp => K.pin p (by rw [List.append_nil]; exact hp), K.hok, K.len⟩
    have bye : ∀ {σ6 : St} {H6 : Hp} {Q : Shared → Prop}, Inv (X.suite a (X.pn ++ pins)) [] σ6 H6 s6 → (∀ s7, Inv X pins (σ6.set i none) H6 s7 → Q s7) →
        wpAny (model X.prog X.w) X.A (do bindName X.env n .none; unbindBehindTheSuite X.env n pos') (fun _ s7 => Q s7) X.xe s6 := fun {σ6 H6 Q} K hq => gone_ok (back K) hN hi hln hq
    cases f with
    | ret u =>
      obtain ⟨v6, σ6, H6, S6, r6, q6⟩ := fin
      exact bye S6 fun s7 J7 => ⟨_, _, _, J7, r6, q6⟩
    | next =>
      obtain ⟨σ6, H6, S6, q6⟩ := fin
      exact bye S6 fun s7 J7 => ⟨_, _, J7, q6⟩
    | brk =>
      obtain ⟨σ6, H6, S6, q6⟩ := fin
      exact bye S6 fun s7 J7 => ⟨_, _, J7, q6⟩
    | cont =>
      obtain ⟨σ6, H6, S6, q6⟩ := fin
      exact bye S6 fun s7 J7 => ⟨_, _, J7, q6⟩
  case ended =>
    cases f with
    | ret u =>
      obtain ⟨v, σ1, H1, J1, r, q⟩ := fin
      exact ⟨v, σ1, H1, J1.ofTry ok, r, q⟩
    | next =>
      obtain ⟨σ1, H1, J1, q⟩ := fin
      exact wpAny_execs_nil ⟨σ1, H1, J1.ofTry ok, q⟩
    | brk =>
      obtain ⟨σ1, H1, J1, q⟩ := fin
      exact ⟨σ1, H1, J1.ofTry ok, q⟩
    | cont =>
      obtain ⟨σ1, H1, J1, q⟩ := fin
      exact ⟨σ1, H1, J1.ofTry ok, q⟩
/-- isinstance(e, C) of an error that was caught -/
def rIsO (K : PySem.W.Frag) : List V → Hp → VK → Prop := fun xs H Q => ∃ (a D : Addr) (c : V) (cv : Value) (b : Bool), xs = [.ref a, c] ∧ H a = some (HeldE (.ref D) a) ∧ ExcC K D ∧ (∀ u, RelV c u → u = cv) ∧ PySem.W.kitOne K (.ref D) cv = some b ∧ Q (.bl b) H
theorem call_isO : CallR X (.builtin "isinstance") (rIsO X.K) := by
  intro pins s σ H xs us Q I r ⟨a, D, c, cv, b, exs, ha, C, hcv, e, q⟩
  subst exs
  obtain ⟨u1, u2, eu, r1, r2⟩ := vals2 r
  subst eu
  cases r1
  have ec := hcv _ r2
  subst ec
  obtain ⟨⟨oe, vs, ho, hz, hd⟩, _, _⟩ := (show ObjOk X.prog X.w H s.heap a (HeldE (.ref D) a) from I.hok a _ ha)
  have J : PySem.W.InstAt s.heap a oe D none := by
    obtain ⟨oc, od, oda, osl⟩ := oe
    obtain ⟨z1, z2⟩ := hz
    dsimp only at z1 z2 hd
    subst z1 z2 hd
    exact ⟨ho, rfl, rfl, trivial⟩
  exact PySem.W.kia_one (PySem.W.handS_kitx_exc C.hg C.hk C.hs C.hd C.ha C.hn C.ht C.hm) I.kIn J e (fun z => nomatch z) fun tk => ⟨.bl b, H, I.kept (t' := tk) fun _ _ z => z, rfl, q⟩
end
end L2.T
set_option maxHeartbeats 2000000
/-! sorted(d), d a dict by tuples, the keys' own tuples known again. -/
namespace L2.T
open PySem PySem.Spec PyProof.Rows
open PySem.W (dataLt dataLe alike AllAlike Sortable EachIs)
open Thin (Tie tieD)
/-- an item with what it stands for, and what else is known of it -/
def StandsP {β : Type} (K : PySem.W.Frag) (H : Hp) (enc : β → PyData) (Z : V → β → Prop) (v : Value) (b : β) : Prop := ∃ x, RelV x v ∧ Dp K H x (enc b) ∧ Z x b
theorem standsP_of {β : Type} {K : PySem.W.Frag} {H : Hp} (enc : β → PyData) {Z : V → β → Prop} : ∀ {bs : List β} {xs : List V} {us : List Value}, DpAll K H xs (bs.map enc) → Paired Z xs bs → Vals xs us → EachIs (StandsP K H enc Z) us bs
  | [], _, _, a, _, r => by
    have a' : DpAll K H _ [] := a
    cases a'; cases r; exact .nil
  | b :: bs, _, _, a, z, r => by
    have a' : DpAll K H _ (enc b :: bs.map enc) := a
    cases a' with
    | cons h a => cases r with
      | cons r1 r2 => cases z with
        | cons z1 z2 => exact .cons ⟨_, r1, h, z1⟩ (standsP_of enc a z2 r2)
theorem of_standsP {β : Type} {K : PySem.W.Frag} {H : Hp} (enc : β → PyData) {Z : V → β → Prop} : ∀ {bs : List β} {us : List Value}, EachIs (StandsP K H enc Z) us bs → ∃ xs : List V, Vals xs us ∧ DpAll K H xs (bs.map enc) ∧ Paired Z xs bs
  | _, _, .nil => ⟨[], .nil, .nil, .nil⟩
  | _, _, .cons ⟨x, r, d, z⟩ t => by
    obtain ⟨xs, rs, ds, zs⟩ := of_standsP enc t
    exact ⟨x :: xs, .cons r rs, .cons d ds, .cons z zs⟩
section
variable {X : Cx} {pins : List (Addr × Obj)} {σ : St} {H : Hp} {s : Shared}
theorem sorted_coreP {β : Type} {r : Value} {xs : List V} {bs : List β} {enc : β → PyData} {Z : V → β → Prop} {its : List Value} {Q : VK} (I : Inv X pins σ H s) (rv : Vals xs its) (hz : xs.length ≤ sizeLine) (dp : DpAll X.K H xs (bs.map enc)) (zs : Paired Z xs bs)
    (al : AllAlike (bs.map enc)) (so : Sortable (bs.map enc)) (dep : ∀ b ∈ bs, (enc b).depth ≤ 8) (hu : X.A.units + 64 < cLine) (ha1 : argsOk "sorted" ⟨[r], []⟩)
    (col : ∀ (R : List Value → Shared → Prop) (E' : Value → Shared → Prop), (∀ h' tk, (∀ b o, s.heap.get? b = some o → h'.get? b = some o) → R its { s with heap := h', toks := tk }) → wpAny (model X.prog X.w) X.A.in1 (collect r) R E' s)
    (q : ∀ (p : Addr) (ys : List V) (cs : List β), H p = none → cs.Perm bs → (cs.Pairwise fun x y => dataLt (enc y) (enc x) = false) → DpAll X.K H ys (cs.map enc) → Paired Z ys cs → Q (.ref p) (upd H p (.lst ys))) :
    wpAny (model X.prog X.w) X.A (call (.builtin "sorted") [r]) (EP X pins σ Q) X.xe s := by
  have hl := rv.length
  have e0 := standsP_of enc dp zs rv
  refine sorted_via (kw := []) (by omega) ha1 col fun h' tk E' k => ?_
  have I1 : Inv X pins σ H { s with heap := h', toks := tk } := I.kept k
  have new : ∀ b, b < h'.objs.size → b ≠ h'.objs.size := fun b hb e => by rw [e] at hb; exact Nat.lt_irrefl _ hb
  have ho : (h'.push (seqObj "list" its.toArray 0)).get? h'.objs.size = some (seqObj "list" its.toArray 0) := Heap.get?_push_size _ rfl
  refine PySem.W.list_sort_data (s := { s with heap := h'.push (seqObj "list" its.toArray 0), toks := tk }) (A := X.A.in1) (R := StandsP X.K H enc Z) ho e0 (e0.mono ?er) al so (by rw [← e0.length]; omega) ?hu ?hq
  case er =>
    rintro v b ⟨x, rx, d, _⟩
    obtain ⟨as, rd⟩ := Dp.reads I1 _ x v d rx
    exact ⟨as, PyProof.Rows.Reads.keeps (fun b o e => Heap.get?_push_of_some _ e) rd, fun m => new _ (reads_lt rd _ m) rfl⟩
  case hu =>
    intro b hb
    have h1 := dep b hb
    show X.A.units + 1 + 1 + (enc b).depth < cLine
    omega
  case hq =>
    intro out hout eo
    obtain ⟨ys, ry, dy, zy⟩ := of_standsP enc eo
    obtain ⟨ep, he⟩ := PyProof.Rows.sortedHeap_at (vs := its) (out := out.toArray) ho
    obtain ⟨f1, f2⟩ := le_facts enc bs
    have hlen : ys.length ≤ sizeLine := by rw [ry.length, hout, ← e0.length]; omega
    have hn : H h'.objs.size = none := I1.hok.fresh (Nat.le_refl _)
    refine ⟨.ref h'.objs.size, upd H h'.objs.size (.lst ys), I1.laid (t' := tk) (fun b u e => ?_) (Nat.le_refl _) ⟨hlen, out, ep, ry, he⟩, rfl, q _ ys _ hn f1 f2 dy zy⟩
    exact (PyProof.Rows.sortedHeap_old (new b (Heap.lt_size e)) (by rw [Heap.size_push]; exact Nat.lt_succ_of_lt (Heap.lt_size e))).trans (Heap.get?_push_of_some _ e)
/-- a key's own tuple -/
def KeyZ (H : Hp) (x : V) (k : List Key) : Prop := ∃ b, x = .ref b ∧ H b = some (.tup (k.map kV))
theorem isKeys_z {H : Hp} : ∀ {kvs : List (List Key × V)} {bs : List Addr}, IsKeys H kvs bs → Paired (KeyZ H) (bs.map V.ref) (kvs.map (·.1))
  | _, _, .nil => .nil
  | _, _, .cons h t => .cons ⟨_, rfl, h⟩ (isKeys_z t)
/-- sorted(d), d a dict by tuples -/
def rSortKeys : List V → Hp → VK → Prop := fun vs H Q => ∃ (a : Addr) (kvs : List (List Key × V)), vs = [.ref a] ∧ Rd H a (.dT kvs) ∧ AllAlike (kvs.map fun p => PyData.tuple (p.1.map keyD)) ∧ Sortable (kvs.map fun p => PyData.tuple (p.1.map keyD)) ∧
  (∀ p ∈ kvs, (PyData.tuple (p.1.map keyD)).depth ≤ 8) ∧
  ∀ (p : Addr) (ys : List V) (cs : List (List Key)), H p = none → cs.Perm (kvs.map (·.1)) → (cs.Pairwise fun x y => dataLt (.tuple (y.map keyD)) (.tuple (x.map keyD)) = false) → Paired (KeyZ H) ys cs → Q (.ref p) (upd H p (.lst ys))
theorem cr_sortKeys (hc : X.calm = true) (hu : X.A.units + 64 < cLine) : CallR X (.builtin "sorted") rSortKeys := by
  intro pins s σ H vs us Q I r h
  obtain ⟨a, kvs, rfl, hd, al, so, dep, q⟩ := h
  obtain ⟨u, rfl, ru⟩ := vals1 r
  cases ru
  obtain ⟨z, hs, ks, kp, o, es, ep, ho, hx, hdt, he, hn⟩ := (show ObjOk X.prog X.w H s.heap a (.dT kvs) from hd.ok I.hok)
  have n1 : es.size = ks.length := size_of_entries he
  have n2 : kvs.length = ks.length := Paired.length kp
  have rv : Vals ((ks.map fun x => x.2.1).map V.ref) ((ks.map fun x => x.2.1).map Value.ref) := vals_refs _
  have em : (kvs.map (·.1)).map (fun k => PyData.tuple (k.map keyD)) = kvs.map fun p => PyData.tuple (p.1.map keyD) := by rw [List.map_map]; rfl
  have dk : DpAll X.K H ((ks.map fun x => x.2.1).map V.ref) ((kvs.map (·.1)).map (fun k => PyData.tuple (k.map keyD))) := by
    rw [em]
    exact dp_isKeys (isKeys_of kp)
  refine sorted_coreP (enc := fun k => PyData.tuple (k.map keyD)) (Z := KeyZ H) I rv (by rw [List.length_map, List.length_map]; omega) dk (isKeys_z (isKeys_of kp)) (by rw [em]; exact al) (by rw [em]; exact so) (fun b hb => by
    obtain ⟨p, hp, rfl⟩ := List.mem_map.mp hb
    exact dep p hp) hu (args_sorted1 _) (fun R E' hR => PySem.W.kdu_collect (A := X.A.in1) (kdl_raw hs hx hdt) (I.ok.hd hc) ho (by omega) fun h' tk acc keep it => ?_) (fun p ys cs hp pm up _ zy => q p ys cs hp pm up zy)
  have len : acc.toList.length = ks.length := by rw [Array.length_toList, it.1]; exact n1
  have ea : acc.toList = (ks.map fun x => x.2.1).map Value.ref := by
    apply List.ext_getElem?
    intro j
    rw [List.getElem?_map, List.getElem?_map]
    by_cases hj : j < ks.length
    · have e1 : acc.toList[j]? = some acc.toList[j] := List.getElem?_eq_getElem (by omega)
      obtain ⟨en, hen, hv⟩ := it.2 j acc.toList[j] (by rw [← Array.getElem?_toList]; exact e1)
      have e2 : ks[j]? = some ks[j] := List.getElem?_eq_getElem hj
      have e3 := entry_at he j
      rw [hen, e2] at e3
      have e4 : en = entryOfKey (tupleKind (mixKind X.prog X.w)) ks[j] := Option.some.inj e3
      rw [e1, e2, hv, e4]
      rfl
    · rw [List.getElem?_eq_none (by omega), List.getElem?_eq_none (by omega)]
      rfl
  rw [ea]
  exact hR h' tk keep
end
end L2.T
set_option maxHeartbeats 2000000
/-! Where each def stands; a net, a tie as data in the heap. -/
namespace L2.T
open PySem PySem.Spec PyProof.Rows
open PySem.W (dataLt dataLe alike AllAlike Sortable EachIs)
open Thin
/-- a def of the text, found by its name -/
structure At (K : PySem.W.Frag) (mg : Str → Option Value) (g x : Str) (st : Stmt) (f : Addr) (fd : FuncData) : Prop where
  F : Fun K x x st f fd
  g : mg g = some (.ref f)
section
variable {K : PySem.W.Frag} {H H' : Hp}
theorem dp_str {v : V} {x : Str} (h : Dp K H v (.str x)) : v = .str x := by cases h; rfl
theorem dp_int {v : V} {i : Int} (h : Dp K H v (.int i)) : v = .int i := by cases h; rfl
theorem dp_strs : ∀ {ps : List Str} {vs : List V}, DpAll K H vs (ps.map PyData.str) → vs = ps.map V.str
  | [], _, h => by
    have h' : DpAll K H _ [] := h
    cases h'; rfl
  | p :: ps, _, h => by
    have h' : DpAll K H _ (.str p :: ps.map PyData.str) := h
    cases h' with
    | cons a t => rw [dp_str a, dp_strs t]; rfl
theorem strs_dp : ∀ ps : List Str, DpAll K H (ps.map V.str) (ps.map PyData.str)
  | [] => .nil
  | p :: ps => .cons (.str p) (strs_dp ps)
theorem tie_of {v : V} {t : Tie} (h : Dp K H v (tieD t)) : ∃ a, v = .ref a ∧ SqT K H a [.str t.1, .str t.2.1, .int t.2.2] := by
  unfold tieD at h
  cases h with
  | tup hq ha =>
    cases ha with
    | cons d1 r1 =>
      cases r1 with
      | cons d2 r2 =>
        cases r2 with
        | cons d3 r3 =>
          cases r3
          rw [dp_str d1, dp_str d2, dp_int d3] at hq
          exact ⟨_, rfl, hq⟩
theorem tie_to {a : Addr} {t : Tie} (h : SqT K H a [.str t.1, .str t.2.1, .int t.2.2]) : Dp K H (.ref a) (tieD t) := .tup h (.cons (.str _) (.cons (.str _) (.cons (.int _) .nil)))
theorem net_of {v : V} {ps : List Str} {ts : List Tie} (h : Dp K H v (netD ps ts)) :
    ∃ a p t xs, v = .ref a ∧ SqT K H a [.ref p, .ref t] ∧ SqT K H p (ps.map V.str) ∧ SqT K H t xs ∧ DpAll K H xs (ts.map tieD) := by
  unfold netD at h
  cases h with
  | tup hq ha =>
    cases ha with
    | cons d1 r1 =>
      cases r1 with
      | cons d2 r2 =>
        cases r2
        cases d1 with
        | tup q1 a1 =>
          cases d2 with
          | tup q2 a2 =>
            rw [dp_strs a1] at q1
            exact ⟨_, _, _, _, rfl, hq, q1, q2, a2⟩
theorem net_to {a p t : Addr} {xs : List V} {ps : List Str} {ts : List Tie} (h : SqT K H a [.ref p, .ref t]) (h1 : SqT K H p (ps.map V.str)) (h2 : SqT K H t xs) (h3 : DpAll K H xs (ts.map tieD)) : Dp K H (.ref a) (netD ps ts) :=
  .tup h (.cons (.tup h1 (strs_dp ps)) (.cons (.tup h2 h3) .nil))
theorem dp_at {β : Type} {enc : β → PyData} : ∀ {bs : List β} {vs : List V} {i : Nat} {v : V}, DpAll K H vs (bs.map enc) → vs[i]? = some v → ∃ b, bs[i]? = some b ∧ Dp K H v (enc b)
  | [], _, i, v, h, e => by
    have h' : DpAll K H _ [] := h
    cases h'
    simp at e
  | b :: bs, vs, 0, v, h, e => by
    have h' : DpAll K H vs (enc b :: bs.map enc) := h
    cases h' with
    | cons a t => exact ⟨b, rfl, by have e' := Option.some.inj e; rw [← e']; exact a⟩
  | b :: bs, vs, i + 1, v, h, e => by
    have h' : DpAll K H vs (enc b :: bs.map enc) := h
    cases h' with
    | cons a t =>
      obtain ⟨c, hc, hd⟩ := dp_at (i := i) t (by simpa using e)
      exact ⟨c, by simpa using hc, hd⟩
theorem dp_len {β : Type} {enc : β → PyData} {bs : List β} {vs : List V} (h : DpAll K H vs (bs.map enc)) : vs.length = bs.length := by
  rw [DpAll_len h, List.length_map]
theorem dp_app : ∀ {vs : List V} {ds : List PyData} {ws : List V} {es : List PyData}, DpAll K H vs ds → DpAll K H ws es → DpAll K H (vs ++ ws) (ds ++ es)
  | _, _, _, _, .nil, h => h
  | _, _, _, _, .cons a t, h => .cons a (dp_app t h)
theorem dp_snoc {β : Type} {enc : β → PyData} {bs : List β} {vs : List V} {b : β} {v : V} (h : DpAll K H vs (bs.map enc)) (h1 : Dp K H v (enc b)) : DpAll K H (vs ++ [v]) ((bs ++ [b]).map enc) := by
  rw [List.map_append]
  exact dp_app h (.cons h1 .nil)
theorem seqL_same {a : Addr} {xs : List V} (e : Same H H') (h : SqL K H a xs) : SqL K H' a xs := e.seq h
theorem yes_of {σ : St} {H : Hp} {Q : Bool → Hp → Prop} (h : Q true H) : tYes σ H Q := h
/-! what stands, but at one place -/
def But (p : Addr) (H H' : Hp) : Prop := ∀ b o, H b = some o → b ≠ p → H' b = some o
theorem But.of {p : Addr} (e : Same H H') : But p H H' := fun b o h _ => e b o h
theorem But.trans {p : Addr} {H2 : Hp} (e : But p H H') (e2 : But p H' H2) : But p H H2 := fun b o h n => e2 b o (e b o h n) n
theorem But.set {p : Addr} {o : HO} : But p H (upd H p o) := fun b u h n => by
  rw [upd_ne n]
  exact h
theorem But.rd {p a : Addr} {u : HO} (e : But p H H') (h : Rd H a u) (n : a ≠ p) : Rd H' a u := by
  rcases h with h | ⟨o, h⟩
  · exact .inl (e _ _ h n)
  · exact .inr ⟨o, e _ _ h n⟩
/-- tuples stand -/
def TupK (H H' : Hp) : Prop := ∀ a xs, Rd H a (.tup xs) → Rd H' a (.tup xs)
theorem TupK.of (e : Same H H') : TupK H H' := fun a xs h => Rd_same e h
theorem TupK.but {p : Addr} (e : But p H H') (h : Mut (H p)) : TupK H H' := fun a xs q => e.rd q (by
  rintro rfl
  rcases q with q | ⟨o, q⟩
  · rw [q] at h; exact h
  · rw [q] at h; exact h)
theorem TupK.but2 {p : Addr} (e : But p H H') (h : ∀ xs, ¬ Rd H p (.tup xs)) : TupK H H' := fun a xs q => e.rd q (by
  rintro rfl
  exact h xs q)
theorem notup {p : Addr} {o : HO} (h : H p = some o) (n : ∀ xs, o ≠ .tup xs) (n2 : ∀ u xs, o ≠ .frz u (.tup xs)) : ∀ xs, ¬ Rd H p (.tup xs) := fun xs q => by
  rcases q with q | ⟨u, q⟩
  · rw [h] at q; exact n xs (Option.some.inj q)
  · rw [h] at q; exact n2 u xs (Option.some.inj q)
theorem TupK.trans {H2 : Hp} (e : TupK H H') (e2 : TupK H' H2) : TupK H H2 := fun a xs h => e2 a xs (e a xs h)
theorem TupK.seq {a : Addr} {xs : List V} (e : TupK H H') (h : SqT K H a xs) : SqT K H' a xs := by
  rcases h with h | h
  · exact .inl (e _ _ h)
  · exact .inr h
mutual
/-- data without lists -/
def noL : PyData → Bool
  | .list _ => false
  | .tuple xs => noLAll xs
  | _ => true
def noLAll : List PyData → Bool
  | [] => true
  | x :: xs => noL x && noLAll xs
end
mutual
theorem Dp_k (e : TupK H H') : ∀ {d : PyData} {v : V}, noL d = true → Dp K H v d → Dp K H' v d
  | _, _, _, .non => .non
  | _, _, _, .bl b => .bl b
  | _, _, _, .int i => .int i
  | _, _, _, .str x => .str x
  | _, _, n, .lst h a => by simp [noL] at n
  | _, _, n, .tup h a => .tup (e.seq h) (DpAll_k e (by simpa [noL] using n) a)
theorem DpAll_k (e : TupK H H') : ∀ {ds : List PyData} {vs : List V}, noLAll ds = true → DpAll K H vs ds → DpAll K H' vs ds
  | _, _, _, .nil => .nil
  | d :: ds, _, n, .cons h a =>
    have n' : noL d = true ∧ noLAll ds = true := by simpa [noLAll] using n
    .cons (Dp_k e n'.1 h) (DpAll_k e n'.2 a)
end
theorem noL_map {β : Type} {enc : β → PyData} (h : ∀ b, noL (enc b) = true) : ∀ bs : List β, noLAll (bs.map enc) = true
  | [] => by simp [noLAll]
  | b :: bs => by
    have := noL_map h bs
    simp [noLAll, h b, this]
theorem noL_tie (t : Tie) : noL (tieD t) = true := by simp [noL, noLAll, tieD]
theorem ties_k (e : TupK H H') {ts : List Tie} {vs : List V} (h : DpAll K H vs (ts.map tieD)) : DpAll K H' vs (ts.map tieD) := DpAll_k e (noL_map noL_tie ts) h
theorem net_k (e : TupK H H') {v : V} {ps : List Str} {ts : List Tie} (h : Dp K H v (netD ps ts)) : Dp K H' v (netD ps ts) := by
  obtain ⟨a, p, t, xs, rfl, h1, h2, h3, h4⟩ := net_of h
  exact net_to (e.seq h1) (e.seq h2) (e.seq h3) (ties_k e h4)
/-- ties between names of the law -/
def TOk (ts : List Tie) : Prop := ∀ t ∈ ts, t.1 ∈ pool ∧ t.2.1 ∈ pool
theorem pool_ok : ∀ x ∈ pool, PyData.strOk x = true := by decide +kernel
theorem tie_lay {t : Tie} (h : t.1 ∈ pool ∧ t.2.1 ∈ pool) : (tieD t).canLay0 = true := by
  have h1 := pool_ok _ h.1
  have h2 := pool_ok _ h.2
  simp [tieD, PyData.canLay0, PyData.canLayAll0, h1, h2]
theorem ties_lay : ∀ ts : List Tie, TOk ts → PyData.canLayAll0 (ts.map tieD) = true ∧ PyData.depthAll (ts.map tieD) ≤ 4
  | [], _ => ⟨by simp [PyData.canLayAll0], by simp [PyData.depthAll]⟩
  | t :: ts, h => by
    obtain ⟨a, b⟩ := ties_lay ts fun u hu => h u (List.mem_cons_of_mem _ hu)
    have e : PyData.depth (tieD t) ≤ 4 := by simp [tieD, PyData.depth, PyData.depthAll]
    have e2 := tie_lay (h t List.mem_cons_self)
    refine ⟨by simp [PyData.canLayAll0, a, e2], ?_⟩
    have e3 : PyData.depthAll ((t :: ts).map tieD) = max (PyData.depth (tieD t)) (PyData.depthAll (ts.map tieD)) := by simp [PyData.depthAll]
    omega
theorem ties_shaped {ts : List Tie} (h : TOk ts) : SeqAt.shaped (.tuple (ts.map tieD)) = true := by
  obtain ⟨a, b⟩ := ties_lay ts h
  have e : (PyData.tuple (ts.map tieD)).depth = PyData.depthAll (ts.map tieD) + 1 := by simp [PyData.depth]
  have e2 : (PyData.tuple (ts.map tieD)).canLay0 = true := by simp [PyData.canLay0, a]
  unfold SeqAt.shaped
  rw [e2, e, Bool.true_and]
  exact decide_eq_true (by omega)
theorem tie_shaped {t : Tie} (h : t.1 ∈ pool ∧ t.2.1 ∈ pool) : SeqAt.shaped (tieD t) = true := by
  have e2 := tie_lay h
  unfold SeqAt.shaped
  rw [e2, Bool.true_and]
  exact decide_eq_true (by simp [tieD, PyData.depth, PyData.depthAll])
end
theorem tie_alike (ts : List Tie) : AllAlike (ts.map tieD) := PySem.W.AllAlike.of fun a b => by simp [tieD, alike, PySem.W.alikeAll]
theorem tie_sortable (ts : List Tie) : Sortable (ts.map tieD) := PySem.W.Sortable.tuples fun b => ⟨_, _, rfl⟩
theorem tie_depth (t : Tie) : (tieD t).depth ≤ 8 := by simp [tieD, PyData.depth, PyData.depthAll]
theorem str_alike (ps : List Str) : AllAlike (ps.map PyData.str) := PySem.W.AllAlike.of fun a b => by simp [alike]
end L2.T
set_option maxHeartbeats 2000000
namespace L2.T
open PySem PySem.Spec PyProof.Rows
open PySem.W (dataLt dataLe alike AllAlike Sortable EachIs)
open Thin
/-- the built-ins that the text names are the built-ins -/
structure Blt (mg : Str → Option Value) : Prop where
  len : mg "len" = none
  range : mg "range" = none
  sorted : mg "sorted" = none
  tuple : mg "tuple" = none
  list : mg "list" = none
  str : mg "str" = none
  int : mg "int" = none
  isi : mg "isinstance" = none
  min : mg "min" = none
  max : mg "max" = none
  all : mg "all" = none
  repr : mg "repr" = none
  val : mg "ValueError" = none
/-! the promises -/
/-- order_of(ties): the same ties, in some order -/
def spOrder (K : PySem.W.Frag) : Sp := fun vs H Q _ => ∃ (a : Addr) (xs : List V) (ts : List Tie), vs = [.ref a] ∧ (SqL K H a xs ∨ SqT K H a xs) ∧ DpAll K H xs (ts.map tieD) ∧
  ∀ (H' : Hp) (p : Addr) (ys : List V) (cs : List Tie), H p = none → Same H H' → H' p = some (.lst ys) → cs.Perm ts → DpAll K H' ys (cs.map tieD) → Q (.ref p) H'
/-- a place with a length -/
def nlD (x : Str × Int) : PyData := .tuple [.str x.1, .int x.2]
/-- ties_at(net, place): some ends of ties, with lengths -/
def spTiesAt (K : PySem.W.Frag) : Sp := fun vs H Q _ => ∃ (v : V) (p : Str) (ps : List Str) (ts : List Tie), vs = [v, .str p] ∧ Dp K H v (netD ps ts) ∧ ts.length ≤ 60 ∧
  ∀ (H' : Hp) (q : Addr) (ys : List V) (cs : List (Str × Int)), Same H H' → H' q = some (.lst ys) → (∀ c ∈ cs, ∃ t ∈ ts, c.1 = t.1 ∨ c.1 = t.2.1) → DpAll K H' ys (cs.map nlD) → Q (.ref q) H'
/-- only(net, ties): the places with these ties -/
def spOnly (K : PySem.W.Frag) : Sp := fun vs H Q _ => ∃ (v : V) (a : Addr) (xs : List V) (ps : List Str) (ts cs : List Tie), vs = [v, .ref a] ∧ Dp K H v (netD ps ts) ∧ SqL K H a xs ∧ DpAll K H xs (cs.map tieD) ∧
  ∀ (H' : Hp) (u : V) (ds : List Tie), Same H H' → ds.Perm cs → Dp K H' u (netD ps ds) → Q u H'
/-- times: a pair of numbers -/
def Times (K : PySem.W.Frag) (H : Hp) (v : V) : Prop := ∃ (a : Addr) (i j : Int), v = .ref a ∧ SqT K H a [.int i, .int j] ∧ 0 ≤ i ∧ i ≤ 1000000 ∧ 0 ≤ j ∧ j ≤ 1000000
def spWithin (K : PySem.W.Frag) : Sp := fun vs H Q _ => ∃ (l n : Int) (v : V), vs = [.int l, v, .int n] ∧ Times K H v ∧ ∀ b : Bool, Q (.bl b) H
abbrev sOrder : Stmt := topS 14
abbrev sTiesAt : Stmt := topS 15
abbrev sOnly : Stmt := topS 16
abbrev sWithin : Stmt := topS 32
theorem nl_alike (ts : List (Str × Int)) : AllAlike (ts.map nlD) := PySem.W.AllAlike.of fun a b => by simp [nlD, alike, PySem.W.alikeAll]
theorem nl_sortable (ts : List (Str × Int)) : Sortable (ts.map nlD) := PySem.W.Sortable.tuples fun b => ⟨_, _, rfl⟩
theorem nl_depth (t : Str × Int) : (nlD t).depth ≤ 8 := by simp [nlD, PyData.depth, PyData.depthAll]
section
variable {P : Program} {w : World} {K : PySem.W.Frag} {mg : Str → Option Value} {base : Heap}
theorem scOr : FnScope ["ties"] ["ties"] (defScope sOrder) := ⟨rfl, rfl, rfl, by decide +kernel, rfl, by decide +kernel, by decide +kernel⟩
theorem ok_order {f fR : Addr} {fd fdR : FuncData} (A : At K mg "order_of" "order_of" sOrder f fd) (R : At K mg "rank" "rank" sRank fR fdR) (B : Blt mg) : FnOk P w K mg base CX0 2 f fd ["ties"] (spOrder K) := by
  refine A.F.ok scOr (fun vs H Q E h => ?_) (fun cdv A outer s H vs Q E hr h => ?_)
  · obtain ⟨a, xs, ts, rfl, _⟩ := h
    rfl
  · obtain ⟨a, xs, ts, rfl, hs, hd, k⟩ := h
    refine ⟨_, pss_one (ps_ret (pe_callBK (cr_sortRank R.F hr) (by rfl) B.sorted (by decide +kernel) (pa_cons (pv 0) pa_nil) (pk_cons (pe_glob (v := .ref fR) (by rfl) R.g rfl) pk_nil))), ?_⟩
    refine ⟨_, rfl, a, xs, ts, rfl, rfl, hs, hd, fun p ys cs np pm dp => ?_⟩
    exact k _ p ys cs np (same_upd np) upd_same pm (DpAll_same (same_upd np) dp)
theorem scTA : FnScope ["net", "place", "found", "one", "other", "length"] ["net", "place"] (defScope sTiesAt) := ⟨rfl, rfl, rfl, by decide +kernel, rfl, by decide +kernel, by decide +kernel⟩
theorem ok_tiesAt {f : Addr} {fd : FuncData} (A : At K mg "ties_at" "ties_at" sTiesAt f fd) (B : Blt mg) : FnOk P w K mg base CX0 1 f fd ["net", "place"] (spTiesAt K) := by
  refine A.F.ok scTA (fun vs H Q E h => ?_) (fun cdv A outer s H vs Q E hr h => ?_)
  · obtain ⟨v, p, ps, ts, rfl, _⟩ := h
    rfl
  · obtain ⟨v, p, ps, ts, rfl, hd, few, k⟩ := h
    refine ⟨_, pss_cons (ps_set (i := 2) scTA.nd rfl (Or.inl rfl) (pe_lst pa_nil))
      (pss_cons (ps_for PassesOwn.never rfl (pi_tup (pe_ix ix_tup (pv 0) pe_int (fun _ _ => rfl))) (pg_tup (by rfl) (pgs_cons (pg_name (i := 3) scTA.nd rfl (Or.inl rfl)) (pgs_cons (pg_name (i := 4) scTA.nd rfl (Or.inl rfl)) (pgs_cons (pg_name (i := 5) scTA.nd rfl (Or.inl rfl)) pgs_nil))))
        (pss_one (ps_if (pt_cmpR op_eq (pv 3) (pv 1) (nomark _))
          (pss_one (ps_expr (pe_bm PySem.F.plainAttrs_list PySem.F.slot_list_append PySem.F.type_list_append mt_append (pv 2) (pa_cons (pe_tup (pa_cons (pv 4) (pa_cons (pv 5) pa_nil))) pa_nil))))
          (pss_one (ps_if (pt_cmpR op_eq (pv 4) (pv 1) (nomark _))
            (pss_one (ps_expr (pe_bm PySem.F.plainAttrs_list PySem.F.slot_list_append PySem.F.type_list_append mt_append (pv 2) (pa_cons (pe_tup (pa_cons (pv 3) (pa_cons (pv 5) pa_nil))) pa_nil))))
            pss_nil)))))
      (pss_one (ps_ret (pe_callB (cr_sortD hr.units) (by rfl) B.sorted (by decide +kernel) (pa_cons (pv 2) pa_nil))))), ?_⟩
    obtain ⟨a, pa, ta, xs, rfl, h1, h2, h3, h4⟩ := net_of hd
    refine ⟨(by show 0 ≤ sizeLine; decide), fun d nd => ?_⟩
    have s0 : Same H (upd H d (.lst [])) := same_upd nd
    have lx : xs.length = ts.length := dp_len h4
    refine ⟨_, rfl, a, _, _, _, rfl, rfl, seqT_same s0 h1, rfl, ta, rfl, ⟨_, seqT_same s0 h3⟩, for_tup (K := K) (a := ta) (xs := xs)
      (fun i σ H' => ∃ (ys : List V) (cs : List (Str × Int)) (v3 v4 v5 : Option V), σ = [some (.ref a), some (.str p), some (.ref d), v3, v4, v5] ∧ Same H H' ∧ H' d = some (.lst ys) ∧ cs.length ≤ i ∧
        (∀ c ∈ cs, ∃ t ∈ ts, c.1 = t.1 ∨ c.1 = t.2.1) ∧ DpAll K H' ys (cs.map nlD))
      ⟨[], [], _, _, _, rfl, s0, upd_same, Nat.le_refl _, (fun _ z => nomatch z), .nil⟩ (fun i σ H' _ ⟨_, _, _, _, _, _, s1, _⟩ => seqT_same s1 h3) ?_ ?_⟩
    · rintro i y σ H1 hi ⟨ys, cs, v3, v4, v5, rfl, s1, hd1, lc, mem, dp⟩
      obtain ⟨t, ht, dt⟩ := dp_at (DpAll_same s1 h4) hi
      obtain ⟨b, rfl, hb⟩ := tie_of dt
      have mt : t ∈ ts := List.mem_of_getElem? ht
      have hil : i < 60 := by
        have := (List.getElem?_eq_some_iff.mp ht).1
        omega
      have ly : ys.length = cs.length := dp_len dp
      -- one turn that appends (x, length)
      have app : ∀ (x : Str) (q : Addr), x = t.1 ∨ x = t.2.1 → H1 q = none → ∃ (l : Addr) (xs : List V) (y : V), V.ref d = .ref l ∧ [V.ref q] = [y] ∧ (upd H1 q (.tup [.str x, .int t.2.2])) l = some (.lst xs) ∧ xs.length < sizeLine ∧
          ∃ (ys : List V) (cs : List (Str × Int)) (v3 v4 v5 : Option V), [some (V.ref a), some (.str p), some (.ref d), some (V.str t.1), some (V.str t.2.1), some (V.int t.2.2)] = [some (.ref a), some (.str p), some (.ref d), v3, v4, v5] ∧
            Same H (upd (upd H1 q (.tup [.str x, .int t.2.2])) l (.lst (xs ++ [y]))) ∧ (upd (upd H1 q (.tup [.str x, .int t.2.2])) l (.lst (xs ++ [y]))) d = some (.lst ys) ∧ cs.length ≤ i + 1 ∧
            (∀ c ∈ cs, ∃ t ∈ ts, c.1 = t.1 ∨ c.1 = t.2.1) ∧ DpAll K (upd (upd H1 q (.tup [.str x, .int t.2.2])) l (.lst (xs ++ [y]))) ys (cs.map nlD) := by
        intro x q hx nq
        have nqd : d ≠ q := ne_of_none hd1 nq
        have sq : Same H1 (upd H1 q (.tup [.str x, .int t.2.2])) := same_upd nq
        have tk : TupK (upd H1 q (.tup [.str x, .int t.2.2])) (upd (upd H1 q (.tup [.str x, .int t.2.2])) d (.lst (ys ++ [.ref q]))) :=
          TupK.but (p := d) But.set (by rw [upd_ne nqd, hd1]; exact True.intro)
        refine ⟨d, ys, .ref q, rfl, rfl, (by rw [upd_ne nqd]; exact hd1), small1000 (by omega), _, cs ++ [(x, t.2.2)], _, _, _, rfl, fun b o e => ?_, upd_same, (by rw [List.length_append, List.length_singleton]; omega), ?_, ?_⟩
        · rw [upd_ne (ne_of_none e nd)]
          exact sq _ _ (s1 _ _ e)
        · intro c hc
          rcases List.mem_append.mp hc with z | z
          · exact mem c z
          · rw [List.mem_singleton.mp z]; exact ⟨t, mt, hx⟩
        · refine dp_snoc (DpAll_k tk (noL_map (fun b => by simp [noL, noLAll, nlD]) _) (DpAll_same sq dp)) ?_
          exact .tup (tk.seq (SqT.of upd_same)) (.cons (.str _) (.cons (.int _) .nil))
      refine ⟨b, _, rfl, hb, rfl, _, _, rfl, _, _, rfl, _, _, rfl, rfl, ?_⟩
      refine ⟨_, rfl, _, rfl, rfl, _, rfl, ?_⟩
      refine ite2 (fun _ => ?_) (fun _ => ?_)
      · refine ⟨_, rfl, .inl ⟨rfl, _, SqL.of hd1⟩, _, rfl, _, rfl, (by show 2 ≤ sizeLine; decide), fun q nq => ?_⟩
        exact app t.2.1 q (.inr rfl) nq
      · refine ⟨_, rfl, _, rfl, rfl, _, rfl, ?_⟩
        refine ite2 (fun _ => ?_) (fun _ => ?_)
        · refine ⟨_, rfl, .inl ⟨rfl, _, SqL.of hd1⟩, _, rfl, _, rfl, (by show 2 ≤ sizeLine; decide), fun q nq => ?_⟩
          exact app t.1 q (.inl rfl) nq
        · exact ⟨ys, cs, _, _, _, rfl, s1, hd1, Nat.le_succ_of_le lc, mem, dp⟩
    · rintro σ H1 ⟨ys, cs, v3, v4, v5, rfl, s1, hd1, lc, mem, dp⟩
      refine ⟨_, rfl, _, d, ys, cs, nlD, rfl, .inl (SqL.of hd1), dp, nl_alike cs, nl_sortable cs, fun b _ => nl_depth b, fun q zs ds nq pm _ dd => ?_⟩
      exact k _ q zs ds (s1.trans (same_upd nq)) upd_same (fun c hc => mem c (pm.mem_iff.mp hc)) (DpAll_same (same_upd nq) dd)
end
end L2.T
set_option maxHeartbeats 2000000
namespace L2.T
open PySem PySem.Spec PyProof.Rows
open PySem.W (dataLt dataLe alike AllAlike Sortable EachIs)
open Thin
section
variable {P : Program} {w : World} {K : PySem.W.Frag} {mg : Str → Option Value} {base : Heap}
theorem scOn : FnScope ["net", "ties"] ["net", "ties"] (defScope sOnly) := ⟨rfl, rfl, rfl, by decide +kernel, rfl, by decide +kernel, by decide +kernel⟩
theorem ok_only {f : Addr} {fd : FuncData} (A : At K mg "only" "only" sOnly f fd) (B : Blt mg) : FnOk P w K mg base CX0 1 f fd ["net", "ties"] (spOnly K) := by
  refine A.F.ok scOn (fun vs H Q E h => ?_) (fun cdv A outer s H vs Q E hr h => ?_)
  · obtain ⟨v, a, xs, ps, ts, cs, rfl, _⟩ := h
    rfl
  · obtain ⟨v, al, xs, ps, ts, cs, rfl, hd, hl, hx, k⟩ := h
    refine ⟨_, pss_one (ps_ret (pe_tup (pa_cons (pe_ix ix_tup (pv 0) pe_int (fun _ _ => rfl)) (pa_cons (pe_callTy call_tuple_of (by rfl) B.tuple (by decide +kernel) (pa_cons
      (pe_callB (cr_sortD hr.units) (by rfl) B.sorted (by decide +kernel) (pa_cons (pv 1) pa_nil)) pa_nil)) pa_nil)))), ?_⟩
    obtain ⟨a, pa, ta, ys, rfl, h1, h2, h3, h4⟩ := net_of hd
    refine ⟨_, rfl, a, _, _, _, rfl, rfl, h1, rfl, _, rfl, Tie, al, xs, cs, tieD, rfl, .inl hl, hx, tie_alike cs, tie_sortable cs, fun b _ => tie_depth b, fun q zs ds nq pm _ dd => ?_⟩
    refine ⟨q, zs, rfl, .inl ⟨SqL.of upd_same, fun l nl => ⟨(by show 2 ≤ sizeLine; decide), fun u nu => ?_⟩⟩⟩
    have s1 : Same H (upd H q (.lst zs)) := same_upd nq
    have s2 : Same (upd H q (.lst zs)) (upd (upd H q (.lst zs)) l (.tup zs)) := same_upd nl
    have s3 := s1.trans s2
    have s4 := s3.trans (same_upd (p := u) (o := .tup [.ref pa, .ref l]) nu)
    refine k _ (.ref u) ds s4 pm (net_to (SqT.of upd_same) (seqT_same s4 h2) (seqT_same (same_upd nu) (SqT.of upd_same)) (DpAll_same s4 dd))
theorem scWi : FnScope ["length", "times", "number"] ["length", "times", "number"] (defScope sWithin) := ⟨rfl, rfl, rfl, by decide +kernel, rfl, by decide +kernel, by decide +kernel⟩
theorem ok_within {f : Addr} {fd : FuncData} (A : At K mg "is_within" "is_within" sWithin f fd) : FnOk P w K mg base CX0 1 f fd ["length", "times", "number"] (spWithin K) := by
  refine A.F.ok scWi (fun vs H Q E h => ?_) (fun cdv A outer s H vs Q E hr h => ?_)
  · obtain ⟨l, n, v, rfl, _⟩ := h
    rfl
  · obtain ⟨l, n, v, rfl, ⟨a, i, j, rfl, ht, i0, i1, j0, j1⟩, k⟩ := h
    refine ⟨_, pss_one (ps_ret (pe_cmpR op_le (pe_op op_mul (pv 0) (pe_ix ix_tup (pv 1) pe_int (fun _ _ => rfl))) (pe_op op_mul (pv 2) (pe_ix ix_tup (pv 1) pe_int (fun _ _ => rfl))) (nomark _))), ?_⟩
    refine ⟨_, rfl, _, rfl, a, _, _, _, rfl, rfl, ht, rfl, _, _, rfl, rfl, .inr ⟨by omega, by omega⟩, ?_⟩
    refine ⟨_, rfl, _, rfl, a, _, _, _, rfl, rfl, ht, rfl, _, _, rfl, rfl, .inr ⟨by omega, by omega⟩, ?_⟩
    exact ⟨_, _, rfl, rfl, k _⟩
end
end L2.T
set_option maxHeartbeats 2000000
namespace L2.T
open PySem PySem.Spec PyProof.Rows
open PySem.W (dataLt dataLe alike AllAlike Sortable EachIs)
open Thin
/-! ### dicts: their keys -/
theorem put_mem {κ : Type} [DecidableEq κ] {kvs : List (κ × V)} {k : κ} {v : V} {p : κ × V} (h : p ∈ putK kvs k v) : p ∈ kvs ∨ p = (k, v) := by
  unfold putK at h
  split at h
  · obtain ⟨q, hq, e⟩ := List.mem_map.mp h
    by_cases c : q.1 = k
    · rw [if_pos c, c] at e; exact .inr e.symm
    · rw [if_neg c] at e; rw [← e]; exact .inl hq
  · rcases List.mem_append.mp h with z | z
    · exact .inl z
    · exact .inr (List.mem_singleton.mp z)
theorem put_keys {κ : Type} [DecidableEq κ] {kvs : List (κ × V)} {k j : κ} {v : V} (h : j ∈ (putK kvs k v).map (·.1)) : j ∈ kvs.map (·.1) ∨ j = k := by
  obtain ⟨p, hp, rfl⟩ := List.mem_map.mp h
  rcases put_mem hp with z | z
  · exact .inl (List.mem_map.mpr ⟨p, z, rfl⟩)
  · rw [z]; exact .inr rfl
theorem put_nd {κ : Type} [DecidableEq κ] {kvs : List (κ × V)} {k : κ} {v : V} (h : (kvs.map (·.1)).Nodup) : ((putK kvs k v).map (·.1)).Nodup := by
  cases e : valV kvs k with
  | none => exact nd_putK v h e
  | some w =>
    have c : (kvs.any fun kv => decide (kv.1 = k)) = true := by rw [valV_any, e]; rfl
    unfold putK
    rw [if_pos c, List.map_map]
    have q : kvs.map ((fun x => x.1) ∘ fun kv => if kv.1 = k then (kv.1, v) else kv) = kvs.map (·.1) := by
      refine List.map_congr_left fun p _ => ?_
      show (if p.1 = k then (p.1, v) else p).1 = p.1
      split <;> rfl
    rw [q]
    exact h
theorem sub_len {α : Type} [DecidableEq α] : ∀ {l m : List α}, l.Nodup → (∀ a ∈ l, a ∈ m) → l.length ≤ m.length
  | [], _, _, _ => Nat.zero_le _
  | a :: l, m, nd, h => by
    obtain ⟨h1, h2⟩ := List.nodup_cons.mp nd
    have ha := h a List.mem_cons_self
    have q := sub_len (l := l) (m := m.erase a) h2 fun b hb => (List.mem_erase_of_ne (show b ≠ a from fun e => h1 (by rw [← e]; exact hb))).mpr (h b (List.mem_cons_of_mem _ hb))
    have e := List.length_erase_of_mem ha
    have pos : 0 < m.length := List.length_pos_of_mem ha
    rw [List.length_cons]
    omega
/-- a dict by places, of pairs with a length ahead -/
def Good (K : PySem.W.Frag) (H : Hp) (U : List Str) (kvs : List (Key × V)) : Prop := ∀ kv ∈ kvs, ∃ (x : Str) (a : Addr) (n : Int) (z : V), kv.1 = Sum.inr x ∧ x ∈ U ∧ kv.2 = .ref a ∧ SqT K H a [.int n, z]
theorem Good.k {K : PySem.W.Frag} {H H' : Hp} {U : List Str} {kvs : List (Key × V)} (e : TupK H H') (g : Good K H U kvs) : Good K H' U kvs := fun kv h => by
  obtain ⟨x, a, n, z, h1, h2, h3, h4⟩ := g kv h
  exact ⟨x, a, n, z, h1, h2, h3, e.seq h4⟩
theorem Good.put {K : PySem.W.Frag} {H : Hp} {U : List Str} {kvs : List (Key × V)} {x : Str} {a : Addr} {n : Int} {z : V} (g : Good K H U kvs) (hx : x ∈ U) (ha : SqT K H a [.int n, z]) : Good K H U (putK kvs (Sum.inr x) (.ref a)) := fun kv h => by
  rcases put_mem h with q | q
  · exact g kv q
  · rw [q]; exact ⟨x, a, n, z, rfl, hx, rfl, ha⟩
theorem Good.val {K : PySem.W.Frag} {H : Hp} {U : List Str} {kvs : List (Key × V)} {k : Key} {v : V} (g : Good K H U kvs) (h : valV kvs k = some v) : ∃ (a : Addr) (n : Int) (z : V), v = .ref a ∧ SqT K H a [.int n, z] := by
  unfold valV at h
  cases e : kvs.find? fun kv => decide (kv.1 = k) with
  | none => rw [e] at h; cases h
  | some p =>
    rw [e] at h
    have ev : p.2 = v := Option.some.inj h
    obtain ⟨x, a, n, z, _, _, h3, h4⟩ := g p (List.mem_of_find?_eq_some e)
    exact ⟨a, n, z, by rw [← ev, h3], h4⟩
theorem Good.few {K : PySem.W.Frag} {H : Hp} {U : List Str} {f w : List (Key × V)} (gf : Good K H U f) (gw : Good K H U w) (nf : (f.map (·.1)).Nodup) (nw : (w.map (·.1)).Nodup) (dj : ∀ k ∈ f.map (·.1), k ∉ w.map (·.1)) :
    f.length + w.length ≤ U.length := by
  have nd : ((f ++ w).map (·.1)).Nodup := by
    rw [List.map_append]
    exact List.nodup_append.mpr ⟨nf, nw, fun a ha b hb e => dj a ha (e ▸ hb)⟩
  have q := sub_len (m := U.map (fun x => (Sum.inr x : Key))) nd fun k hk => by
    obtain ⟨p, hp, rfl⟩ := List.mem_map.mp hk
    rcases List.mem_append.mp hp with z | z
    · obtain ⟨x, _, _, _, e, hx, _⟩ := gf p z
      rw [e]; exact List.mem_map.mpr ⟨x, hx, rfl⟩
    · obtain ⟨x, _, _, _, e, hx, _⟩ := gw p z
      rw [e]; exact List.mem_map.mpr ⟨x, hx, rfl⟩
  simpa using q
/-- a comprehension over a dict -/
theorem lc_keys {a : Addr} {o : Obj} {kvs : List (Key × V)} {g : TG} {tt : TT} {te : TE} {vs : List Nat} {σ : St} {H1 : Hp} {D : Addr} {Qd : Hp → Prop} (Pv : Nat → Hp → Prop) (h0 : Pv 0 (upd H1 D (.lst [])))
    (hl : ∀ i H, i ≤ kvs.length → Pv i H → H a = some (.frz o (.dK kvs)))
    (hs : ∀ i (p : Key × V) H, kvs[i]? = some p → Pv i H → g (kV p.1) (wipe σ vs) H fun σ2 H2 => wipe σ2 vs = wipe σ vs ∧ tt σ2 H2 fun b H3 =>
      if b = true then te σ2 H3 fun y H4 => ∃ acc, H4 D = some (.lst acc) ∧ acc.length < sizeLine ∧ Pv (i + 1) (upd H4 D (.lst (acc ++ [y]))) else Pv (i + 1) H3) (hd : ∀ H, Pv kvs.length H → Qd H) :
    ∃ W : Nat → Nat → Hp → Prop, (∃ m, W 0 m (upd H1 D (.lst []))) ∧ ∀ i m H, W i m H →
      ((Itk a o kvs).stop i H ∧ Qd H) ∨ ((Itk a o kvs).go i H ∧ ∃ Nx : Hp → Prop, (∀ H', Nx H' → ∃ m', m' < m ∧ W (i + 1) m' H') ∧ ∀ x H', (Itk a o kvs).yld i H x H' → g x (wipe σ vs) H' fun σ2 H2 => wipe σ2 vs = wipe σ vs ∧ tt σ2 H2 fun b H3 =>
        if b = true then te σ2 H3 fun y H4 => ∃ acc, H4 D = some (.lst acc) ∧ acc.length < sizeLine ∧ Nx (upd H4 D (.lst (acc ++ [y]))) else Nx H3) := by
  refine ⟨fun i m H => m = kvs.length - i ∧ i ≤ kvs.length ∧ Pv i H, ⟨kvs.length, rfl, Nat.zero_le _, h0⟩, ?_⟩
  rintro i m H ⟨rfl, hi, p⟩
  have q := hl i H hi p
  by_cases hlt : i < kvs.length
  · refine .inr ⟨⟨q, hlt⟩, Pv (i + 1), fun H' p' => ⟨kvs.length - (i + 1), by omega, rfl, hlt, p'⟩, fun x H' y => ?_⟩
    obtain ⟨e, k, v, hk, ex⟩ := y
    subst e
    subst ex
    exact hs i (k, v) _ hk p
  · have e : i = kvs.length := by omega
    subst e
    exact .inl ⟨⟨q, Nat.le_refl _⟩, hd H p⟩
/-- a length with a place -/
def lnD (x : Int × Str) : PyData := .tuple [.int x.1, .str x.2]
theorem ln_alike (ts : List (Int × Str)) : AllAlike (ts.map lnD) := PySem.W.AllAlike.of fun a b => by simp [lnD, alike, PySem.W.alikeAll]
theorem ln_sortable (ts : List (Int × Str)) : Sortable (ts.map lnD) := PySem.W.Sortable.tuples fun b => ⟨_, _, rfl⟩
theorem ln_depth (t : Int × Str) : (lnD t).depth ≤ 8 := by simp [lnD, PyData.depth, PyData.depthAll]
theorem ln_noL (t : Int × Str) : noL (lnD t) = true := by simp [noL, noLAll, lnD]
theorem nl_noL (t : Str × Int) : noL (nlD t) = true := by simp [noL, noLAll, nlD]
theorem ln_of {K : PySem.W.Frag} {H : Hp} {v : V} {t : Int × Str} (h : Dp K H v (lnD t)) : ∃ a, v = .ref a ∧ SqT K H a [.int t.1, .str t.2] := by
  unfold lnD at h
  cases h with
  | tup hq ha =>
    cases ha with
    | cons d1 r1 =>
      cases r1 with
      | cons d2 r2 =>
        cases r2
        rw [dp_int d1, dp_str d2] at hq
        exact ⟨_, rfl, hq⟩
theorem nl_of {K : PySem.W.Frag} {H : Hp} {v : V} {t : Str × Int} (h : Dp K H v (nlD t)) : ∃ a, v = .ref a ∧ SqT K H a [.str t.1, .int t.2] := by
  unfold nlD at h
  cases h with
  | tup hq ha =>
    cases ha with
    | cons d1 r1 =>
      cases r1 with
      | cons d2 r2 =>
        cases r2
        rw [dp_str d1, dp_int d2] at hq
        exact ⟨_, rfl, hq⟩
theorem dp_put {β : Type} {enc : β → PyData} : ∀ {K : PySem.W.Frag} {H : Hp} {bs : List β} {vs : List V} {i : Nat} {b : β}, DpAll K H vs (bs.map enc) → bs[i]? = some b → ∃ v, vs[i]? = some v ∧ Dp K H v (enc b) := by
  intro K H bs vs i b h e
  have l := dp_len h
  have hi := (List.getElem?_eq_some_iff.mp e).1
  have q : vs[i]? = some (vs[i]'(by omega)) := List.getElem?_eq_getElem (by omega)
  obtain ⟨c, hc, hd⟩ := dp_at h q
  rw [e] at hc
  cases hc
  exact ⟨_, q, hd⟩
end L2.T
set_option maxHeartbeats 2000000
namespace L2.T
open PySem PySem.Spec PyProof.Rows
open PySem.W (dataLt dataLe alike AllAlike Sortable EachIs)
open Thin
/-- nearest(net, place): a dict of pairs with a length ahead -/
def spNear (K : PySem.W.Frag) : Sp := fun vs H Q _ => ∃ (v : V) (p : Str) (ps : List Str) (ts : List Tie), vs = [v, .str p] ∧ Dp K H v (netD ps ts) ∧ ts.length ≤ 60 ∧
  ∀ (H' : Hp) (d : Addr) (U : List Str) (kvs : List (Key × V)), Same H H' → H' d = some (.dK kvs) → Good K H' U kvs → Q (.ref d) H'
abbrev sNear : Stmt := topS 28
abbrev nNear : List Str := ["net", "place", "found", "waiting", "here", "other", "length", "so_far", "name"]
section
variable {P : Program} {w : World} {K : PySem.W.Frag} {mg : Str → Option Value} {base : Heap}
theorem scNr : FnScope nNear ["net", "place"] (defScope sNear) := ⟨rfl, rfl, rfl, by decide +kernel, rfl, by decide +kernel, by decide +kernel⟩
/-- the first of the sorted waiting ones: a key of the dict -/
def ends (p : Str) (ts : List Tie) : List Str := p :: (ts.map (·.1) ++ ts.map (·.2.1))
theorem ends_len (p : Str) (ts : List Tie) : (ends p ts).length = 2 * ts.length + 1 := by
  simp [ends]
  omega
theorem ends_of {p : Str} {ts : List Tie} {t : Tie} (h : t ∈ ts) {x : Str} (hx : x = t.1 ∨ x = t.2.1) : x ∈ ends p ts := by
  refine List.mem_cons_of_mem _ (List.mem_append.mpr ?_)
  rcases hx with e | e
  · exact .inl (List.mem_map.mpr ⟨t, h, e.symm⟩)
  · exact .inr (List.mem_map.mpr ⟨t, h, e.symm⟩)
/-- what holds between two turns of the while -/
structure Walk (K : PySem.W.Frag) (H0 : Hp) (U : List Str) (df dw : Addr) (H : Hp) (fk wk : List (Key × V)) : Prop where
  old : Same H0 H
  ne : df ≠ dw
  hf : H df = some (.dK fk)
  hw : H dw = some (.dK wk)
  gf : Good K H U fk
  gw : Good K H U wk
  nf : (fk.map (·.1)).Nodup
  nw : (wk.map (·.1)).Nodup
  dj : ∀ k ∈ fk.map (·.1), k ∉ wk.map (·.1)
  f0 : H0 df = none
  w0 : H0 dw = none
def left (U : List Str) (df : Addr) (H : Hp) : Nat := match H df with
  | some (.dK kvs) => U.length - kvs.length
  | _ => 0
theorem ok_near {f fT : Addr} {fd fdT : FuncData} (A : At K mg "nearest" "nearest" sNear f fd) (T : At K mg "ties_at" "ties_at" sTiesAt fT fdT) (bT : Binds K fdT ["net", "place"] []) (B : Blt mg) : FnOk P w K mg base CX0 2 f fd ["net", "place"] (spNear K) := by
  have GT : FnOk P w K mg base CX0 1 fT fdT ["net", "place"] (spTiesAt K) := ok_tiesAt T B
  refine A.F.ok scNr (fun vs H Q E h => ?_) (fun cdv A outer s H vs Q E hr h => ?_)
  · obtain ⟨v, p, ps, ts, rfl, _⟩ := h
    rfl
  · obtain ⟨v, p, ps, ts, rfl, hd, few, k⟩ := h
    have hu := hu_of hr
    refine ⟨_, pss_cons (ps_set (i := 2) scNr.nd rfl (Or.inl rfl) pe_dnewK)
      (pss_cons (ps_set (i := 3) scNr.nd rfl (Or.inr rfl) (pe_disp (pps_cons (pv 1) (pe_tup (pa_cons pe_int (pa_cons pe_non pa_nil))) pps_nil) (by rfl) (by rfl) (fun z => by cases z) (by decide)))
      (pss_cons (ps_while PassesOwn.never (pt_cmpR op_gt (pe_callB call_lenD (by rfl) B.len PySem.boot_len (pa_cons (pv 3) pa_nil)) pe_int (nomark _))
        (pss_cons (ps_set (i := 4) scNr.nd rfl (Or.inl rfl) (pe_ix ix_tup (pe_ix ix_list (pe_callB (cr_sortD hr.units) (by rfl) B.sorted (by decide +kernel) (pa_cons
            (pe_lock (pe_lc (own := [("name", 8)]) (g := gName 8) (by rfl) scNr.nd (pi_keys (pv 3)) (blkOk_by (N := nNear) (sc := defScope sNear) (by decide +kernel)) (fun _ _ _ _ _ => pg_name (i := 8) scNr.nd rfl (Or.inl rfl)) (fun _ _ _ _ _ => pts_nil)
              (fun _ _ _ _ _ => pe_tup (pa_cons (pe_ix (r := rIxT K) ix_tup (pe_dget hu (pv 3) (pv 8) (fun _ _ => rfl)) pe_int (fun _ _ => rfl)) (pa_cons (pv 8) pa_nil))))) pa_nil)) pe_int (fun _ _ => rfl)) pe_int (fun _ _ => rfl)))
        (pss_cons (ps_dput hu (pv 2) (pv 4) (pe_dpop1 (pv 3) (pv 4) ⟨rfl, rfl, rfl, rfl⟩) rfl)
        (pss_one (ps_for PassesOwn.never rfl (pi_list (pe_call GT hr (by rfl) T.g T.F.kp bT .nil pass0 (pa_cons (pv 0) (pa_cons (pv 4) pa_nil)))) (pg_tup (by rfl) (pgs_cons (pg_name (i := 5) scNr.nd rfl (Or.inl rfl)) (pgs_cons (pg_name (i := 6) scNr.nd rfl (Or.inl rfl)) pgs_nil)))
          (pss_cons (ps_set (i := 7) scNr.nd rfl (Or.inl rfl) (pe_op op_add (pe_ix ix_tup (pe_dget hu (pv 2) (pv 4) (fun _ _ => rfl)) pe_int (fun _ _ => rfl)) (pv 6)))
          (pss_one (ps_if (PW.pt (pw_and (pt_cmp (pc_dnotin hu (pv 5) (pv 2))) (pw_and1 (PW.pt (pw_or (pt_cmp (pc_dnotin hu (pv 5) (pv 3))) (pw_or1 (pt_cmpR op_lt (pv 7) (pe_ix ix_tup (pe_dget hu (pv 3) (pv 5) (fun _ _ => rfl)) pe_int (fun _ _ => rfl)) (nomark _))))))))
            (pss_one (ps_dput hu (pv 3) (pv 5) (pe_tup (pa_cons (pv 7) (pa_cons (pv 4) pa_nil))) rfl)) pss_nil))))))))
      (pss_one (ps_ret (pv 2))))), ?_⟩
    intro df nf
    refine fun dw nw => ?_
    have nfw : df ≠ dw := ne_of_none upd_same nw
    refine ⟨_, rfl, (by show 2 ≤ sizeLine; decide), fun q nq => ⟨(by rw [upd_ne (ne_of_none upd_same nq)]; exact upd_same), [(Sum.inr p, .ref q)], rfl, (by show 1 ≤ 15; decide), ?_⟩⟩
    have nwq : dw ≠ q := ne_of_none upd_same nq
    have nfq : df ≠ q := ne_of_none (by rw [upd_ne nfw]; exact upd_same) nq
    have W0 : Walk K H (ends p ts) df dw (upd (upd (upd (upd H df (.dK [])) dw (.dK [])) q (.tup [.int 0, .non])) dw (.dK (mergeK [] [(Sum.inr p, V.ref q)]))) [] [(Sum.inr p, .ref q)] := by
      have n1 : H dw = none := (same_upd nf).free nw
      have n2 : H q = none := (same_upd nf).free ((same_upd nw).free nq)
      refine ⟨fun b o e => ?_, nfw, ?_, upd_same, (fun _ z => nomatch z), fun kv hk => ?_, List.nodup_nil, ?_, (fun _ z => nomatch z), nf, n1⟩
      · rw [upd_ne (ne_of_none e n1), upd_ne (ne_of_none e n2), upd_ne (ne_of_none e n1), upd_ne (ne_of_none e nf)]
        exact e
      · rw [upd_ne nfw, upd_ne nfq, upd_ne nfw]
        exact upd_same
      · rw [List.mem_singleton.mp hk]
        exact ⟨p, q, 0, .non, rfl, List.mem_cons_self, rfl, SqT.of (by rw [upd_ne nwq.symm]; exact upd_same)⟩
      · exact List.nodup_cons.mpr ⟨List.not_mem_nil, List.nodup_nil⟩
    refine while_by (fun σ H' => ∃ (fk wk : List (Key × V)) (s4 s5 s6 s7 : Option V), σ = [some v, some (.str p), some (.ref df), some (.ref dw), s4, s5, s6, s7, none] ∧ Walk K H (ends p ts) df dw H' fk wk)
      (fun _ H' => left (ends p ts) df H') ⟨_, _, _, _, _, _, rfl, W0⟩ ?turn ?mono
    case mono =>
      rintro σ H1 Q1 Q2 m ⟨v1, e, a, kvs, e1, e2, i, j, e3, e4, b, e5, q⟩
      exact ⟨v1, e, a, kvs, e1, e2, i, j, e3, e4, b, e5, m _ _ q⟩
    case turn =>
      rintro σ H1 ⟨fk, wk, s4, s5, s6, s7, rfl, W⟩
      refine ⟨_, rfl, dw, wk, rfl, W.hw, _, _, rfl, rfl, _, rfl, ?_⟩
      refine ite2 (fun c => ?_) (fun c => ?_)
      · -- a turn
        have pos : 0 < wk.length := by
          have := of_decide_eq_true c
          omega
        have fewU : fk.length + wk.length ≤ 2 * ts.length + 1 := by
          have z := W.gf.few W.gw W.nf W.nw W.dj
          rw [ends_len] at z
          exact z
        refine ⟨dw, .dK wk, W.hw, True.intro, fun od => ⟨_, rfl, dw, od, rfl, .inl ⟨wk, upd_same, fun D nD => ?_⟩⟩⟩
        have nDw : D ≠ dw := fun z => by rw [z, upd_same] at nD; cases nD
        have nD1 : H1 D = none := by rw [upd_ne nDw] at nD; exact nD
        refine lc_keys (a := dw) (o := od) (kvs := wk) (fun i H2 => ∃ (ys : List V) (cs : List (Int × Str)), But dw H1 H2 ∧ H2 dw = some (.frz od (.dK wk)) ∧ H2 D = some (.lst ys) ∧ DpAll K H2 ys (cs.map lnD) ∧ cs.length = i ∧ ∀ c ∈ cs, (Sum.inr c.2 : Key) ∈ wk.map (·.1))
          ⟨[], [], fun b o e n => ?b0, (by rw [upd_ne nDw.symm]; exact upd_same), upd_same, .nil, rfl, fun _ z => nomatch z⟩ (fun i H2 _ ⟨_, _, _, h, _⟩ => h) ?step ?done
        case b0 =>
          rw [upd_ne (ne_of_none e nD1), upd_ne n]
          exact e
        case step =>
          rintro i ⟨kk, vv⟩ H2 hi ⟨ys, cs, bt, hfr, hD, dp, lc, mem⟩
          have mk : (kk, vv) ∈ wk := List.mem_of_getElem? hi
          have hil : i < wk.length := (List.getElem?_eq_some_iff.mp hi).1
          obtain ⟨x, a, n, z, e1, hx, e3, ha⟩ := W.gw _ mk
          have e1' : kk = Sum.inr x := e1
          have e3' : vv = .ref a := e3
          subst e1' e3'
          have tk : TupK H1 H2 := TupK.but bt (by rw [W.hw]; exact True.intro)
          have ly : ys.length = cs.length := dp_len dp
          refine ⟨rfl, ?_⟩
          refine yes_of (iteT ?_)
          refine ⟨_, rfl, _, rfl, dw, _, rfl, .inl ⟨wk, Sum.inr x, .inr ⟨od, hfr⟩, rfl, (val_nodup W.nw _ mk).symm⟩, a, _, _, _, rfl, rfl, tk.seq ha, rfl, _, rfl, (by show 2 ≤ sizeLine; decide), fun q nq => ?_⟩
          have nDq : D ≠ q := ne_of_none hD nq
          have nwq : dw ≠ q := ne_of_none hfr nq
          have sq : Same H2 (upd H2 q (.tup [.int n, .str x])) := same_upd nq
          have t2 : TupK (upd H2 q (.tup [.int n, .str x])) (upd (upd H2 q (.tup [.int n, .str x])) D (.lst (ys ++ [.ref q]))) := TupK.but (p := D) But.set (by rw [upd_ne nDq, hD]; exact True.intro)
          refine ⟨ys, (by rw [upd_ne nDq]; exact hD), small1000 (by omega), ys ++ [.ref q], cs ++ [(n, x)], fun b o e nb => ?_, ?_, upd_same, ?_, (by rw [List.length_append, List.length_singleton, lc]), fun c hc => ?_⟩
          · rw [upd_ne (ne_of_none e nD1)]
            exact sq _ _ (bt _ _ e nb)
          · rw [upd_ne nDw.symm, upd_ne nwq]
            exact hfr
          · refine dp_snoc (DpAll_k t2 (noL_map ln_noL _) (DpAll_same sq dp)) ?_
            exact .tup (t2.seq (SqT.of upd_same)) (.cons (.int _) (.cons (.str _) .nil))
          · rcases List.mem_append.mp hc with z | z
            · exact mem c z
            · rw [List.mem_singleton.mp z]
              exact List.mem_map.mpr ⟨_, mk, rfl⟩
        case done =>
          rintro H2 ⟨ys, cs, bt, hfr, hD, dp, lc, mem⟩
          have tk : TupK H2 (upd H2 dw (.dK wk)) := TupK.but2 (p := dw) But.set (notup hfr (fun _ z => nomatch z) fun _ _ z => nomatch z)
          refine ⟨hfr, _, D, ys, cs, lnD, rfl, .inl (SqL.of (by rw [upd_ne nDw]; exact hD)), DpAll_k tk (noL_map ln_noL _) dp, ln_alike cs, ln_sortable cs, fun b _ => ln_depth b, fun q zs ds nq pm _ dd => ?_⟩
          have lds : ds.length = wk.length := pm.length_eq.trans lc
          obtain ⟨c0, hc0⟩ : ∃ c0, ds[0]? = some c0 := ⟨ds[0]'(by omega), List.getElem?_eq_getElem (by omega)⟩
          obtain ⟨v0, hv0, dv0⟩ := dp_put dd hc0
          obtain ⟨a0, rfl, ha0⟩ := ln_of dv0
          have sq := same_upd (H := upd H2 dw (.dK wk)) (o := .lst zs) nq
          refine ⟨q, zs, _, _, rfl, rfl, SqL.of upd_same, atI_nat (j := 0) hv0, a0, _, _, _, rfl, rfl, seqT_same sq ha0, rfl, ?_⟩
          obtain ⟨c1, x⟩ := c0
          have hx : (Sum.inr x : Key) ∈ wk.map (·.1) := mem _ (pm.mem_iff.mp (List.mem_of_getElem? hc0))
          obtain ⟨vv, hvv⟩ : ∃ vv, valV wk (Sum.inr x) = some vv := by
            cases e : valV wk (Sum.inr x : Key) with
            | none => exact absurd hx (valV_not e)
            | some w => exact ⟨w, rfl⟩
          -- the heap here
          have b3 : But dw H1 (upd (upd H2 dw (.dK wk)) q (.lst zs)) := fun b o e n => sq _ _ (by rw [upd_ne n]; exact bt _ _ e n)
          have hw4 : (upd (upd H2 dw (.dK wk)) q (.lst zs)) dw = some (.dK wk) := sq _ _ upd_same
          have hf4 : (upd (upd H2 dw (.dK wk)) q (.lst zs)) df = some (.dK fk) := b3 _ _ W.hf W.ne
          generalize hH4 : upd (upd H2 dw (.dK wk)) q (.lst zs) = H4 at b3 hw4 hf4
          have t4 : TupK H1 H4 := TupK.but b3 (by rw [W.hw]; exact True.intro)
          have old4 : Same H H4 := fun b o e => b3 b o (W.old b o e) (ne_of_none e W.w0)
          obtain ⟨av, nv, zv, rfl, hav⟩ := W.gw.val hvv
          have fx : (Sum.inr x : Key) ∉ fk.map (·.1) := fun z => W.dj _ z hx
          have efk : valV fk (Sum.inr x : Key) = none := by
            cases e : valV fk (Sum.inr x : Key) with
            | none => rfl
            | some w => exact absurd (valV_in e) fx
          refine ⟨_, rfl, dw, rfl, .inl ⟨wk, .inl hw4⟩, _, rfl, wk, Sum.inr x, _, hw4, rfl, hvv, _, rfl, _, rfl, df, _, rfl, DPut.k (k := Sum.inr x) (kvs := fk) (by rw [upd_ne W.ne]; exact hf4) (small1000 (by omega)), ?_⟩
          have W6 : Walk K H (ends p ts) df dw (upd (upd H4 dw (.dK (dropK wk (Sum.inr x)))) df (.dK (putK fk (Sum.inr x) (.ref av)))) (putK fk (Sum.inr x) (.ref av)) (dropK wk (Sum.inr x)) := by
            have t5 : TupK H4 (upd H4 dw (.dK (dropK wk (Sum.inr x)))) := TupK.but (p := dw) But.set (by rw [hw4]; exact True.intro)
            have t6 : TupK (upd H4 dw (.dK (dropK wk (Sum.inr x)))) (upd (upd H4 dw (.dK (dropK wk (Sum.inr x)))) df (.dK (putK fk (Sum.inr x) (.ref av)))) := TupK.but (p := df) But.set (by rw [upd_ne W.ne, hf4]; exact True.intro)
            have t := t4.trans (t5.trans t6)
            have hxU : x ∈ ends p ts := by
              obtain ⟨pp, hpp, ep⟩ := List.mem_map.mp hx
              obtain ⟨x2, _, _, _, e2, hx2, _⟩ := W.gw pp hpp
              have e3 : (Sum.inr x2 : Key) = Sum.inr x := e2.symm.trans ep
              injection e3 with e3
              rw [← e3]
              exact hx2
            refine ⟨fun b o e => ?_, W.ne, upd_same, (by rw [upd_ne W.ne.symm]; exact upd_same), (W.gf.k t).put hxU (t.seq hav), fun kv hk => W.gw.k t kv (dropK_mem hk), put_nd W.nf, nd_dropK W.nw, fun k2 hk2 hk3 => ?_, W.f0, W.w0⟩
            · rw [upd_ne (ne_of_none e W.f0), upd_ne (ne_of_none e W.w0)]
              exact old4 _ _ e
            · obtain ⟨p2, hp2, ep2⟩ := List.mem_map.mp hk3
              have hin := dropK_mem hp2
              have hne : p2.1 ≠ Sum.inr x := of_decide_eq_true (List.mem_filter.mp hp2).2
              rcases put_keys hk2 with z | z
              · exact W.dj _ z (by rw [← ep2]; exact List.mem_map.mpr ⟨p2, hin, rfl⟩)
              · exact hne (ep2.trans z)
          have lf : (putK fk (Sum.inr x : Key) (V.ref av)).length = fk.length + 1 := by
            rw [putK_new _ efk, List.length_append, List.length_singleton]
          have vx : valV (putK fk (Sum.inr x : Key) (V.ref av)) (Sum.inr x) = some (.ref av) := by rw [valV_put, if_pos rfl]
          generalize putK fk (Sum.inr x : Key) (V.ref av) = fk' at W6 lf vx
          generalize dropK wk (Sum.inr x : Key) = wk' at W6
          generalize (upd (upd H4 dw (.dK wk')) df (.dK fk')) = H6 at W6
          refine ⟨_, rfl, _, rfl, v, x, ps, ts, rfl, Dp_same W6.old hd, few, fun H7 q7 ys7 cs7 s7 hq7 mem7 dp7 => ⟨q7, rfl, ⟨_, SqL.of hq7⟩, ?_⟩⟩
          have W7 : Walk K H (ends p ts) df dw H7 fk' wk' := ⟨W6.old.trans s7, W6.ne, s7 _ _ W6.hf, s7 _ _ W6.hw, W6.gf.k (TupK.of s7), W6.gw.k (TupK.of s7), W6.nf, W6.nw, W6.dj, W6.f0, W6.w0⟩
          have nqw : q7 ≠ dw := ne_of hq7 W7.hw (fun z => nomatch z)
          refine for_list (K := K) (a := q7) (xs := ys7) (fun i σ H' => ∃ (wk2 : List (Key × V)) (s5 s6 s7 : Option V), σ = [some v, some (.str p), some (.ref df), some (.ref dw), some (.str x), s5, s6, s7, none] ∧ But dw H7 H' ∧ Walk K H (ends p ts) df dw H' fk' wk2)
            ⟨wk', _, _, _, rfl, fun b o e _ => e, W7⟩ (fun i σ H' _ ⟨_, _, _, _, _, bt, _⟩ => SqL.of (bt _ _ hq7 nqw)) ?inner ?after
          case inner =>
            rintro i y σ H8 hi ⟨wk2, s5, s6, s7, rfl, bt, W8⟩
            have t8 : TupK H7 H8 := TupK.but bt (by rw [W7.hw]; exact True.intro)
            obtain ⟨e2, he2, de2⟩ := dp_at (DpAll_k t8 (noL_map nl_noL _) dp7) hi
            obtain ⟨ae, rfl, hae⟩ := nl_of de2
            obtain ⟨t0, ht0, hx0⟩ := mem7 e2 (List.mem_of_getElem? he2)
            have xU : e2.1 ∈ ends p ts := ends_of ht0 hx0
            have few2 : fk'.length + wk2.length ≤ 2 * ts.length + 1 := by
              have z := W8.gf.few W8.gw W8.nf W8.nw W8.dj
              rw [ends_len] at z
              exact z
            obtain ⟨af, nn, zz, eaf, haf⟩ := W8.gf.val vx
            -- waiting[other] = (so_far, here)
            have put : ∀ (sf : Int), e2.1 ∉ ([] : List Str) → (Sum.inr e2.1 : Key) ∉ fk'.map (·.1) → ∀ (q : Addr), H8 q = none → ∃ (a : Addr) (H4 : Hp), V.ref dw = .ref a ∧ DPut (upd H8 q (.tup [.int sf, .str x])) a (.str e2.1) (.ref q) H4 ∧
                ∃ (wk2 : List (Key × V)) (s5 s6 s7 : Option V), [some v, some (.str p), some (.ref df), some (.ref dw), some (.str x), some (.str e2.1), some (.int e2.2), some (.int sf), none] = [some v, some (.str p), some (.ref df), some (.ref dw), some (.str x), s5, s6, s7, none] ∧ But dw H7 H4 ∧ Walk K H (ends p ts) df dw H4 fk' wk2 := by
              intro sf _ nin q nq
              have nwq : dw ≠ q := ne_of_none W8.hw nq
              have nfq : df ≠ q := ne_of_none W8.hf nq
              have sq : Same H8 (upd H8 q (.tup [.int sf, .str x])) := same_upd nq
              have t9 : TupK (upd H8 q (.tup [.int sf, .str x])) (upd (upd H8 q (.tup [.int sf, .str x])) dw (.dK (putK wk2 (Sum.inr e2.1) (.ref q)))) := TupK.but (p := dw) But.set (by rw [upd_ne nwq, W8.hw]; exact True.intro)
              have t := (TupK.of sq).trans t9
              refine ⟨dw, _, rfl, DPut.k (k := Sum.inr e2.1) (kvs := wk2) (by rw [upd_ne nwq]; exact W8.hw) (small1000 (by omega)), putK wk2 (Sum.inr e2.1) (.ref q), _, _, _, rfl, fun b o e n => ?_, ?_⟩
              · rw [upd_ne n]
                exact sq _ _ (bt _ _ e n)
              · refine ⟨fun b o e => ?_, W8.ne, (by rw [upd_ne W8.ne]; exact sq _ _ W8.hf), upd_same, W8.gf.k t, (W8.gw.k t).put xU (t9.seq (SqT.of upd_same)), W8.nf, put_nd W8.nw, fun k2 h2 h3 => ?_, W8.f0, W8.w0⟩
                · rw [upd_ne (ne_of_none e W8.w0)]
                  exact sq _ _ (W8.old _ _ e)
                · rcases put_keys h3 with z | z
                  · exact W8.dj _ h2 z
                  · exact nin (by rw [← z]; exact h2)
            have stay : ∀ (sf : Int), ∃ (wk2 : List (Key × V)) (s5 s6 s7 : Option V), [some v, some (.str p), some (.ref df), some (.ref dw), some (.str x), some (.str e2.1), some (.int e2.2), some (.int sf), none] = [some v, some (.str p), some (.ref df), some (.ref dw), some (.str x), s5, s6, s7, none] ∧ But dw H7 H8 ∧ Walk K H (ends p ts) df dw H8 fk' wk2 :=
              fun sf => ⟨wk2, _, _, _, rfl, bt, W8⟩
            refine ⟨ae, _, rfl, hae, rfl, _, _, rfl, _, _, rfl, rfl, ?_⟩
            refine ⟨_, rfl, _, rfl, df, _, rfl, (by rw [← vx]; exact DGet.k (k := Sum.inr x) W8.hf), af, _, _, _, eaf, rfl, haf, rfl, _, rfl, _, _, rfl, rfl, ?_⟩
            refine ⟨_, rfl, _, rfl, df, _, rfl, DGet.k (k := Sum.inr e2.1) W8.hf, _, rfl, ?_⟩
            cases c1 : valV fk' (Sum.inr e2.1 : Key) with
            | some w1 => exact iteF (iteF (stay _))
            | none =>
              have nin := valV_not c1
              refine iteT ?_
              refine ⟨_, rfl, _, rfl, dw, _, rfl, DGet.k (k := Sum.inr e2.1) W8.hw, _, rfl, ?_⟩
              cases c2 : valV wk2 (Sum.inr e2.1 : Key) with
              | none =>
                refine iteT (iteT ?_)
                exact ⟨_, rfl, _, rfl, (by show 2 ≤ sizeLine; decide), fun q nq => ⟨_, rfl, _, rfl, put _ List.not_mem_nil nin q nq⟩⟩
              | some w2 =>
                obtain ⟨aw, nw2, zw, rfl, haw⟩ := W8.gw.val c2
                refine iteF ?_
                refine ⟨_, rfl, _, rfl, _, rfl, dw, _, rfl, (by rw [← c2]; exact DGet.k (k := Sum.inr e2.1) W8.hw), aw, _, _, _, rfl, rfl, haw, rfl, _, _, rfl, rfl, _, rfl, ?_⟩
                refine ite2 (fun _ => ?_) (fun _ => stay _)
                exact ⟨_, rfl, _, rfl, (by show 2 ≤ sizeLine; decide), fun q nq => ⟨_, rfl, _, rfl, put _ List.not_mem_nil nin q nq⟩⟩
          case after =>
            rintro σ H8 ⟨wk2, s5, s6, s7, rfl, bt, W8⟩
            refine ⟨⟨fk', wk2, _, _, _, _, rfl, W8⟩, ?_⟩
            have e1 : left (ends p ts) df H8 = (ends p ts).length - fk'.length := by unfold left; rw [W8.hf]
            have e2 : left (ends p ts) df H1 = (ends p ts).length - fk.length := by unfold left; rw [W.hf]
            show left (ends p ts) df H8 < left (ends p ts) df H1
            rw [e1, e2, lf, ends_len]
            omega
      · exact ⟨_, rfl, k H1 df _ fk W.old W.hf W.gf⟩
end
end L2.T
set_option maxHeartbeats 2000000
namespace L2.T
open PySem PySem.Spec PyProof.Rows
open PySem.W (dataLt dataLe alike AllAlike Sortable EachIs)
open Thin
def spFar (K : PySem.W.Frag) : Sp := fun vs H Q _ => ∃ (v : V) (a b : Str) (ps : List Str) (ts : List Tie), vs = [v, .str a, .str b] ∧ Dp K H v (netD ps ts) ∧ ts.length ≤ 60 ∧
  ∀ (H' : Hp) (r : V), Same H H' → ((∃ n, r = .int n) ∨ r = .non) → Q r H'
def spWanted (K : PySem.W.Frag) : Sp := fun vs H Q _ => ∃ (v t tv : V) (kl : Addr) (xs : List V) (ps : List Str) (ts cs : List Tie) (x : Tie), vs = [v, t, .ref kl, tv] ∧ Dp K H v (netD ps ts) ∧ Times K H t ∧ SqL K H kl xs ∧ DpAll K H xs (cs.map tieD) ∧
  Dp K H tv (tieD x) ∧ cs.length ≤ 60 ∧ ∀ (H' : Hp) (b : Bool), Same H H' → Q (.bl b) H'
def spThin (K : PySem.W.Frag) : Sp := fun vs H Q _ => ∃ (v t : V) (ps : List Str) (ts : List Tie), vs = [v, t] ∧ Dp K H v (netD ps ts) ∧ Times K H t ∧ ts.length ≤ 60 ∧
  ∀ (H' : Hp) (u : V) (cs : List Tie), Same H H' → Dp K H' u (netD ps cs) → (∀ x ∈ cs, x ∈ ts) → cs.length ≤ ts.length → Q u H'
theorem Times.same {K : PySem.W.Frag} {H H' : Hp} {v : V} (e : TupK H H') (h : Times K H v) : Times K H' v := by
  obtain ⟨a, i, j, h1, h2, h3⟩ := h
  exact ⟨a, i, j, h1, e.seq h2, h3⟩
abbrev sFar : Stmt := topS 29
abbrev sWanted : Stmt := topS 33
abbrev sThin : Stmt := topS 34
section
variable {P : Program} {w : World} {K : PySem.W.Frag} {mg : Str → Option Value} {base : Heap}
theorem scFa : FnScope ["net", "a", "b"] ["net", "a", "b"] (defScope sFar) := ⟨rfl, rfl, rfl, by decide +kernel, rfl, by decide +kernel, by decide +kernel⟩
theorem ok_far {g : Str} {f fN fT : Addr} {fd fdN fdT : FuncData} (A : At K mg g "far" sFar f fd) (N : At K mg "nearest" "nearest" sNear fN fdN) (bN : Binds K fdN ["net", "place"] []) (T : At K mg "ties_at" "ties_at" sTiesAt fT fdT) (bT : Binds K fdT ["net", "place"] []) (B : Blt mg) :
    FnOk P w K mg base CX0 3 f fd ["net", "a", "b"] (spFar K) := by
  have GN : FnOk P w K mg base CX0 2 fN fdN ["net", "place"] (spNear K) := ok_near N T bT B
  refine A.F.ok scFa (fun vs H Q E h => ?_) (fun cdv A outer s H vs Q E hr h => ?_)
  · obtain ⟨v, a, b, ps, ts, rfl, _⟩ := h
    rfl
  · obtain ⟨v, a, b, ps, ts, rfl, hd, few, k⟩ := h
    have hu := hu_of hr
    refine ⟨_, pss_one (ps_ret (pe_ix ix_tup (pe_dget2 hu (pe_call GN hr (by rfl) N.g N.F.kp bN .nil pass0 (pa_cons (pv 0) (pa_cons (pv 1) pa_nil))) (pv 2) (pe_tup (pa_cons pe_non (pa_cons pe_non pa_nil))) ⟨rfl, rfl, rfl, rfl⟩) pe_int (fun _ _ => rfl))), ?_⟩
    refine ⟨_, rfl, _, rfl, v, a, ps, ts, rfl, hd, few, fun H1 d U kvs s1 hd1 g1 => ⟨d, rfl, .inl ⟨kvs, .inl hd1⟩, _, rfl, (by show 2 ≤ sizeLine; decide), fun q nq => ?_⟩⟩
    have sq : Same H1 (upd H1 q (.tup [.non, .non])) := same_upd nq
    refine ⟨_, DGet.k (k := Sum.inr b) (sq _ _ hd1), ?_⟩
    cases e : valV kvs (Sum.inr b : Key) with
    | none => exact ⟨q, _, _, _, rfl, rfl, SqT.of upd_same, rfl, k _ _ (s1.trans sq) (.inr rfl)⟩
    | some w =>
      obtain ⟨a2, n, z, rfl, h2⟩ := g1.val e
      exact ⟨a2, _, _, _, rfl, rfl, seqT_same sq h2, rfl, k _ _ (s1.trans sq) (.inl ⟨n, rfl⟩)⟩
theorem scWa : FnScope ["net", "times", "kept", "tie", "length"] ["net", "times", "kept", "tie"] (defScope sWanted) := ⟨rfl, rfl, rfl, by decide +kernel, rfl, by decide +kernel, by decide +kernel⟩
theorem ok_wanted {f fF fO fW : Addr} {fd fdF fdO fdW : FuncData} (A : At K mg "is_wanted" "is_wanted" sWanted f fd) (F : At K mg "far_ways" "far" sFar fF fdF) (bF : Binds K fdF ["net", "a", "b"] []) (GF : FnOk P w K mg base CX0 3 fF fdF ["net", "a", "b"] (spFar K))
    (O : At K mg "only" "only" sOnly fO fdO) (bO : Binds K fdO ["net", "ties"] []) (W : At K mg "is_within" "is_within" sWithin fW fdW) (bW : Binds K fdW ["length", "times", "number"] []) (B : Blt mg) :
    FnOk P w K mg base CX0 4 f fd ["net", "times", "kept", "tie"] (spWanted K) := by
  have GO : FnOk P w K mg base CX0 1 fO fdO ["net", "ties"] (spOnly K) := ok_only O B
  have GW : FnOk P w K mg base CX0 1 fW fdW ["length", "times", "number"] (spWithin K) := ok_within W
  refine A.F.ok scWa (fun vs H Q E h => ?_) (fun cdv A outer s H vs Q E hr h => ?_)
  · obtain ⟨v, t, tv, kl, xs, ps, ts, cs, x, rfl, _⟩ := h
    rfl
  · obtain ⟨v, t, tv, kl, xs, ps, ts, cs, x, rfl, hd, ht, hl, hx, hv, few, k⟩ := h
    have hr1 : Room 1 _ := hr.mono (by decide)
    refine ⟨_, pss_cons (ps_set (i := 4) scWa.nd rfl (Or.inl rfl) (pe_call GF hr (by rfl) F.g F.F.kp bF .nil pass0 (pa_cons (pe_call GO hr1 (by rfl) O.g O.F.kp bO .nil pass0 (pa_cons (pv 0) (pa_cons (pv 2) pa_nil)))
        (pa_cons (pe_ix ix_tup (pv 3) pe_int (fun _ _ => rfl)) (pa_cons (pe_ix ix_tup (pv 3) pe_int (fun _ _ => rfl)) pa_nil)))))
      (pss_one (ps_ret (pe_or (pe_cmp (pc_isN (pv 4)) rfl) (pe_one (pe_not (pe_call GW hr1 (by rfl) W.g W.F.kp bW .nil pass0 (pa_cons (pv 4) (pa_cons (pv 1) (pa_cons (pe_ix ix_tup (pv 3) pe_int (fun _ _ => rfl)) pa_nil))))))))), ?_⟩
    obtain ⟨a, rfl, ha⟩ := tie_of hv
    refine ⟨_, rfl, _, rfl, v, kl, xs, ps, ts, cs, rfl, hd, hl, hx, fun H1 u ds s1 pm dd => ?_⟩
    refine ⟨_, rfl, a, _, _, _, rfl, rfl, seqT_same s1 ha, rfl, _, rfl, a, _, _, _, rfl, rfl, seqT_same s1 ha, rfl, u, x.1, x.2.1, ps, ds, rfl, dd, (by rw [pm.length_eq]; exact few), fun H2 r s2 hr2 => ?_⟩
    have s12 := s1.trans s2
    rcases hr2 with ⟨n, rfl⟩ | rfl
    · refine ⟨_, rfl, _, rfl, ite2 (fun z => nomatch (of_decide_eq_true z)) (fun _ => ?_)⟩
      refine ⟨_, rfl, _, rfl, _, rfl, a, _, _, _, rfl, rfl, seqT_same s12 ha, rfl, n, x.2.2, t, rfl, ht.same (TupK.of s12), fun b => ⟨_, rfl, ?_⟩⟩
      exact k H2 _ s12
    · exact ⟨_, rfl, _, rfl, ite2 (fun _ => k H2 _ s12) (fun z => absurd (decide_eq_true rfl) z)⟩
theorem scTh : FnScope ["net", "times", "kept", "tie"] ["net", "times"] (defScope sThin) := ⟨rfl, rfl, rfl, by decide +kernel, rfl, by decide +kernel, by decide +kernel⟩
theorem ok_thin {f fW fO fR fS : Addr} {fd fdW fdO fdR fdS : FuncData} (A : At K mg "thinned" "thinned" sThin f fd) (Wt : At K mg "is_wanted" "is_wanted" sWanted fW fdW) (bW : Binds K fdW ["net", "times", "kept", "tie"] []) (GW : FnOk P w K mg base CX0 4 fW fdW ["net", "times", "kept", "tie"] (spWanted K))
    (O : At K mg "only" "only" sOnly fO fdO) (bO : Binds K fdO ["net", "ties"] []) (S : At K mg "order_of" "order_of" sOrder fS fdS) (bS : Binds K fdS ["ties"] []) (R : At K mg "rank" "rank" sRank fR fdR) (B : Blt mg) :
    FnOk P w K mg base CX0 5 f fd ["net", "times"] (spThin K) := by
  have GO : FnOk P w K mg base CX0 1 fO fdO ["net", "ties"] (spOnly K) := ok_only O B
  have GS : FnOk P w K mg base CX0 2 fS fdS ["ties"] (spOrder K) := ok_order S R B
  refine A.F.ok scTh (fun vs H Q E h => ?_) (fun cdv A outer s H vs Q E hr h => ?_)
  · obtain ⟨v, t, ps, ts, rfl, _⟩ := h
    rfl
  · obtain ⟨v, t, ps, ts, rfl, hd, ht, few, k⟩ := h
    have hr1 : Room 1 _ := hr.mono (by decide)
    have hr2 : Room 2 _ := hr.mono (by decide)
    refine ⟨_, pss_cons (ps_set (i := 2) scTh.nd rfl (Or.inl rfl) (pe_lst pa_nil))
      (pss_cons (ps_for PassesOwn.never rfl (pi_list (pe_call GS hr2 (by rfl) S.g S.F.kp bS .nil pass0 (pa_cons (pe_ix ix_tup (pv 0) pe_int (fun _ _ => rfl)) pa_nil))) (pg_name (i := 3) scTh.nd rfl (Or.inl rfl))
        (pss_one (ps_if (pt_val (pe_call GW hr (by rfl) Wt.g Wt.F.kp bW .nil pass0 (pa_cons (pv 0) (pa_cons (pv 1) (pa_cons (pv 2) (pa_cons (pv 3) pa_nil))))))
          (pss_one (ps_expr (pe_bm PySem.F.plainAttrs_list PySem.F.slot_list_append PySem.F.type_list_append mt_append (pv 2) (pa_cons (pv 3) pa_nil)))) pss_nil)))
      (pss_one (ps_ret (pe_call GO hr1 (by rfl) O.g O.F.kp bO .nil pass0 (pa_cons (pv 0) (pa_cons (pv 2) pa_nil)))))), ?_⟩
    obtain ⟨a, pa, ta, ys, rfl, h1, h2, h3, h4⟩ := net_of hd
    refine ⟨(by show 0 ≤ sizeLine; decide), fun d nd => ?_⟩
    have s0 : Same H (upd H d (.lst [])) := same_upd nd
    refine ⟨_, rfl, a, _, _, _, rfl, rfl, seqT_same s0 h1, rfl, ta, ys, ts, rfl, .inr (seqT_same s0 h3), DpAll_same s0 h4, fun H1 q zs cs nq s1 hq pm dz => ⟨q, rfl, ⟨_, SqL.of hq⟩, ?_⟩⟩
    have hd1 : H1 d = some (.lst []) := s1 _ _ upd_same
    have nqd : q ≠ d := fun z => by rw [z, upd_same] at nq; cases nq
    have s01 := s0.trans s1
    refine for_list (K := K) (a := q) (xs := zs) (fun i σ H' => ∃ (xs : List V) (ks : List Tie) (s3 : Option V), σ = [some (.ref a), some t, some (.ref d), s3] ∧ But d H1 H' ∧ H' d = some (.lst xs) ∧ DpAll K H' xs (ks.map tieD) ∧ ks.length ≤ i ∧ ∀ x ∈ ks, x ∈ ts)
      ⟨[], [], _, rfl, fun b o e _ => e, hd1, .nil, Nat.le_refl _, fun _ z => nomatch z⟩ (fun i σ H' _ ⟨_, _, _, _, bt, _⟩ => SqL.of (bt _ _ hq nqd)) ?_ ?_
    · rintro i y σ H2 hi ⟨xs, ks, s3, rfl, bt, hx, dx, lk, mem⟩
      have t2 : TupK H1 H2 := TupK.but bt (by rw [hd1]; exact True.intro)
      obtain ⟨x, hxi, dv⟩ := dp_at (ties_k t2 dz) hi
      have mx : x ∈ ts := pm.mem_iff.mp (List.mem_of_getElem? hxi)
      have lz : zs.length = ts.length := (dp_len dz).trans pm.length_eq
      have il : i < zs.length := (List.getElem?_eq_some_iff.mp hi).1
      have t02 : TupK H H2 := (TupK.of s01).trans t2
      have lx : xs.length = ks.length := dp_len dx
      refine ⟨_, rfl, _, rfl, _, rfl, _, rfl, _, _, _, d, xs, ps, ts, ks, x, rfl, net_k t02 hd, ht.same t02, SqL.of hx, dx, dv, by omega, fun H3 b s3 => ⟨b, rfl, ?_⟩⟩
      have bt3 : But d H1 H3 := fun b o e n => s3 _ _ (bt _ _ e n)
      refine ite2 (fun _ => ?_) (fun _ => ?_)
      · have t3 : TupK H3 (upd H3 d (.lst (xs ++ [y]))) := TupK.but (p := d) But.set (by rw [s3 _ _ hx]; exact True.intro)
        refine ⟨_, rfl, .inl ⟨rfl, _, SqL.of (s3 _ _ hx)⟩, _, rfl, d, xs, y, rfl, rfl, s3 _ _ hx, small1000 (by omega), xs ++ [y], ks ++ [x], _, rfl, bt3.trans But.set, upd_same, ?_, (by rw [List.length_append, List.length_singleton]; omega), fun z hz => ?_⟩
        · exact ties_k t3 (dp_snoc (DpAll_same s3 dx) (Dp_same s3 dv))
        · rcases List.mem_append.mp hz with m | m
          · exact mem z m
          · rw [List.mem_singleton.mp m]; exact mx
      · exact ⟨xs, ks, _, rfl, bt3, s3 _ _ hx, DpAll_same s3 dx, by omega, mem⟩
    · rintro σ H2 ⟨xs, ks, s3, rfl, bt, hx, dx, lk, mem⟩
      have t2 : TupK H1 H2 := TupK.but bt (by rw [hd1]; exact True.intro)
      have lz : zs.length = ts.length := (dp_len dz).trans pm.length_eq
      have old : Same H H2 := fun b o e => bt b o (s01 b o e) (ne_of_none e nd)
      refine ⟨_, rfl, _, rfl, _, d, xs, ps, ts, ks, rfl, Dp_same old hd, SqL.of hx, dx, fun H3 u ds s3 pd dd => ?_⟩
      exact k H3 u ds (old.trans s3) dd (fun z hz => mem z (pd.mem_iff.mp hz)) (by rw [pd.length_eq]; omega)
end
end L2.T
set_option maxHeartbeats 2000000
namespace L2.T
open PySem PySem.Spec PyProof.Rows
open PySem.W (dataLt dataLe alike AllAlike Sortable EachIs)
open Thin
abbrev sKeep (j : Nat) : Stmt := inClass (topS 36) j
/-! ### a keeper -/
theorem kTN : ¬ (("own_times" : Str) = "own_net") := by decide +kernel
theorem kTH : ¬ (("own_times" : Str) = "own_thin") := by decide +kernel
theorem kNH : ¬ (("own_net" : Str) = "own_thin") := by decide +kernel
def flds (t v h : V) : List (Str × V) := putF "own_thin" h (putF "own_net" v (putF "own_times" t []))
theorem flds_eq (t v h : V) : flds t v h = ([("own_times", t), ("own_net", v), ("own_thin", h)] : List (Str × V)) := by
  show putF "own_thin" h (if ("own_times" : Str) = "own_net" then _ else (("own_times" : Str), t) :: putF "own_net" v []) = _
  rw [if_neg kTN]
  show (if ("own_times" : Str) = "own_thin" then _ else (("own_times" : Str), t) :: (if ("own_net" : Str) = "own_thin" then _ else (("own_net" : Str), v) :: putF "own_thin" h [])) = _
  rw [if_neg kTH, if_neg kNH]
  rfl
theorem flds_t (t v h : V) : (flds t v h).lookup ("own_times" : Str) = some t := by
  unfold flds
  rw [lookup_putF, if_neg kTH, lookup_putF, if_neg kTN, lookup_putF, if_pos rfl]
theorem flds_n (t v h : V) : (flds t v h).lookup ("own_net" : Str) = some v := by
  unfold flds
  rw [lookup_putF, if_neg kNH, lookup_putF, if_pos rfl]
theorem flds_h (t v h : V) : (flds t v h).lookup ("own_thin" : Str) = some h := by
  unfold flds
  rw [lookup_putF, if_pos rfl]
theorem flds_no (t v h : V) {m : Str} (h1 : ¬ m = "own_thin") (h2 : ¬ m = "own_net") (h3 : ¬ m = "own_times") : (flds t v h).lookup m = none := by
  unfold flds
  rw [lookup_putF, if_neg h1, lookup_putF, if_neg h2, lookup_putF, if_neg h3]
  all_goals rfl
theorem flds_putN (t v h v' : V) : putF "own_net" v' (flds t v h) = flds t v' h := by
  rw [flds_eq, flds_eq]
  show (if ("own_times" : Str) = "own_net" then _ else (("own_times" : Str), t) :: (if ("own_net" : Str) = "own_net" then (("own_net" : Str), v') :: [(("own_thin" : Str), h)] else _)) = _
  rw [if_neg kTN, if_pos rfl]
theorem flds_putH (t v h h' : V) : putF "own_thin" h' (flds t v h) = flds t v h' := by
  rw [flds_eq, flds_eq]
  show (if ("own_times" : Str) = "own_thin" then _ else (("own_times" : Str), t) :: (if ("own_net" : Str) = "own_thin" then _ else (("own_net" : Str), v) :: (if ("own_thin" : Str) = "own_thin" then (("own_thin" : Str), h') :: [] else _))) = _
  rw [if_neg kTH, if_neg kNH, if_pos rfl]
/-- a keeper at p: its net, the ties of its thin net -/
def KeepAt (K : PySem.W.Frag) (C : Addr) (H : Hp) (p : Addr) (ps : List Str) (ts ks : List Tie) : Prop :=
  ∃ (dx : Addr) (t v h : V), H p = some (.ins C dx (flds t v h)) ∧ Times K H t ∧ Dp K H v (netD ps ts) ∧ Dp K H h (netD ps ks) ∧ (∀ x ∈ ks, x ∈ ts) ∧ ks.length ≤ ts.length
theorem KeepAt.same {K : PySem.W.Frag} {C : Addr} {H H' : Hp} {p : Addr} {ps : List Str} {ts ks : List Tie} (e : Same H H') (h : KeepAt K C H p ps ts ks) : KeepAt K C H' p ps ts ks := by
  obtain ⟨dx, t, v, u, h1, h2, h3, h4, h5⟩ := h
  exact ⟨dx, t, v, u, e _ _ h1, h2.same (TupK.of e), Dp_same e h3, Dp_same e h4, h5⟩
/-- .. where something else has changed -/
theorem KeepAt.but {K : PySem.W.Frag} {C q : Addr} {H H' : Hp} {p : Addr} {ps : List Str} {ts ks : List Tie} (e : But q H H') (n : p ≠ q) (k : TupK H H') (h : KeepAt K C H p ps ts ks) : KeepAt K C H' p ps ts ks := by
  obtain ⟨dx, t, v, u, h1, h2, h3, h4, h5⟩ := h
  exact ⟨dx, t, v, u, e _ _ h1 n, h2.same k, net_k k h3, net_k k h4, h5⟩
/-- what the text's class is -/
structure KTxt (K : PySem.W.Frag) (mg : Str → Option Value) (C : Addr) : Prop where
  cl : Cls K C
  nT : NoAttr K C "own_times"
  nN : NoAttr K C "own_net"
  nH : NoAttr K C "own_thin"
structure Me (K : PySem.W.Frag) (C : Addr) (x qual : Str) (st : Stmt) (f : Addr) (fd : FuncData) : Prop where
  F : Fun K x qual st f fd
  m : Meth K C x f
def spInit (K : PySem.W.Frag) (C : Addr) : Sp := fun vs H Q _ => ∃ (p dx : Addr) (t : V), vs = [.ref p, t] ∧ H p = some (.ins C dx []) ∧ Times K H t ∧ ∀ (H' : Hp), But p H H' → KeepAt K C H' p [] [] [] → Q .non H'
def spTurn (K : PySem.W.Frag) (C : Addr) : Sp := fun vs H Q _ => ∃ (p : Addr) (n : V) (ps qs : List Str) (ts us ks : List Tie), vs = [.ref p, n] ∧ KeepAt K C H p qs us ks ∧ Dp K H n (netD ps ts) ∧ TOk ts ∧ TOk ks ∧ ts.length ≤ 60 ∧ ks.length ≤ 60 ∧
  ∀ (H' : Hp) (r : V) (ks' : List Tie), But p H H' → KeepAt K C H' p ps ts ks' → Q r H'
section
variable {P : Program} {w : World} {K : PySem.W.Frag} {mg : Str → Option Value} {base : Heap}
theorem void_net {H1 : Hp} {a b c : Addr} (na : H1 a = none) (nb : upd H1 a (.tup []) b = none) (nc : upd (upd H1 a (.tup [])) b (.tup []) c = none) :
    Same H1 (upd (upd (upd H1 a (.tup [])) b (.tup [])) c (.tup [.ref a, .ref b])) ∧ Dp K (upd (upd (upd H1 a (.tup [])) b (.tup [])) c (.tup [.ref a, .ref b])) (.ref c) (netD [] []) := by
  have sa : Same H1 (upd H1 a (.tup [])) := same_upd na
  have sb := same_upd (o := .tup []) nb
  have sc := same_upd (o := .tup [.ref a, .ref b]) nc
  exact ⟨sa.trans (sb.trans sc), net_to (p := a) (t := b) (xs := []) (SqT.of upd_same) (SqT.of (sc _ _ (sb _ _ upd_same))) (SqT.of (sc _ _ upd_same)) .nil⟩
theorem scIn : FnScope ["self", "times"] ["self", "times"] (defScope (sKeep 0)) := ⟨rfl, rfl, rfl, by decide +kernel, rfl, by decide +kernel, by decide +kernel⟩
theorem ok_kinit {f C : Addr} {fd : FuncData} (F : Fun K "__init__" "Keeper.__init__" (sKeep 0) f fd) (T : KTxt K mg C) : FnOk P w K mg base CX0 1 f fd ["self", "times"] (spInit K C) := by
  refine F.ok scIn (fun vs H Q E h => ?_) (fun cdv A outer s H vs Q E hr h => ?_)
  · obtain ⟨p, dx, t, rfl, _⟩ := h
    rfl
  · obtain ⟨p, dx, t, rfl, hp, ht, k⟩ := h
    refine ⟨_, pss_cons (ps_fld (pv 0) (pv 1) rfl)
      (pss_cons (ps_fld (pv 0) (pe_tup (pa_cons (pe_tup pa_nil) (pa_cons (pe_tup pa_nil) pa_nil))) rfl)
      (pss_one (ps_fld (pv 0) (pe_tup (pa_cons (pe_tup pa_nil) (pa_cons (pe_tup pa_nil) pa_nil))) rfl))), ?_⟩
    refine ⟨_, rfl, _, rfl, p, C, dx, [], rfl, hp, T.cl, T.nT, (by show 0 < 1000; decide), ?_⟩
    refine ⟨(by show 0 ≤ sizeLine; decide), fun a na => ⟨(by show 0 ≤ sizeLine; decide), fun b nb => ⟨(by show 2 ≤ sizeLine; decide), fun c nc => ?_⟩⟩⟩
    obtain ⟨s2, d2⟩ := void_net (K := K) na nb nc
    have hp2 := s2 _ _ (upd_same (H := H) (a := p) (o := .ins C dx (putF "own_times" t [])))
    refine ⟨_, rfl, p, C, dx, _, rfl, hp2, T.cl, T.nN, (by show 1 < 1000; decide), ?_⟩
    have t2 : TupK H _ := (TupK.but (H := H) (p := p) (H' := upd H p (.ins C dx (putF "own_times" t []))) But.set (by rw [hp]; exact True.intro)).trans (TupK.of s2)
    have b2 : But p H _ := (But.set (p := p) (H := H) (o := .ins C dx (putF "own_times" t []))).trans (But.of s2)
    generalize (upd (upd (upd (upd H p (.ins C dx (putF "own_times" t []))) a (.tup [])) b (.tup [])) c (.tup [.ref a, .ref b])) = H2 at hp2 d2 t2 b2
    refine ⟨(by show 0 ≤ sizeLine; decide), fun a3 na3 => ⟨(by show 0 ≤ sizeLine; decide), fun b3 nb3 => ⟨(by show 2 ≤ sizeLine; decide), fun c3 nc3 => ?_⟩⟩⟩
    obtain ⟨s3, d3⟩ := void_net (K := K) na3 nb3 nc3
    have t3 : TupK H2 _ := (TupK.but (H := H2) (p := p) (H' := upd H2 p (.ins C dx (putF "own_net" (.ref c) (putF "own_times" t [])))) But.set (by rw [hp2]; exact True.intro)).trans (TupK.of s3)
    have b3' : But p H2 _ := (But.set (p := p) (H := H2) (o := .ins C dx (putF "own_net" (.ref c) (putF "own_times" t [])))).trans (But.of s3)
    have hp3 := s3 _ _ (upd_same (H := H2) (a := p) (o := .ins C dx (putF "own_net" (.ref c) (putF "own_times" t []))))
    generalize (upd (upd (upd (upd H2 p (.ins C dx (putF "own_net" (.ref c) (putF "own_times" t [])))) a3 (.tup [])) b3 (.tup [])) c3 (.tup [.ref a3, .ref b3])) = H3 at hp3 d3 t3 b3'
    have l3 : (putF "own_net" (V.ref c) (putF "own_times" t [])).length < 1000 := by
      have z1 := length_putF "own_net" (V.ref c) (putF "own_times" t [])
      have z2 := length_putF "own_times" t []
      have z3 : ([] : List (Str × V)).length = 0 := rfl
      omega
    refine ⟨_, rfl, p, C, dx, _, rfl, hp3, T.cl, T.nH, l3, ?_⟩
    have t4 : TupK H3 (upd H3 p (.ins C dx (flds t (.ref c) (.ref c3)))) := TupK.but (p := p) But.set (by rw [hp3]; exact True.intro)
    exact k _ ((b2.trans b3').trans But.set) ⟨dx, t, .ref c, .ref c3, upd_same, ht.same (t2.trans (t3.trans t4)), net_k (t3.trans t4) d2, net_k t4 d3, (fun _ z => nomatch z), Nat.le_refl _⟩
end
end L2.T
set_option maxHeartbeats 2000000
namespace L2.T
open PySem PySem.Spec PyProof.Rows
open PySem.W (dataLt dataLe alike AllAlike Sortable EachIs)
open Thin
theorem flds_len (t v h : V) : (flds t v h).length < 1000 := by
  rw [flds_eq]
  show 3 < 1000
  decide
/-- ties picked from a tuple of ties, by a test that reads alone: what a turn of such a comprehension leaves -/
def Picked (K : PySem.W.Frag) (H1 : Hp) (D : Addr) (ts : List Tie) (i : Nat) (H : Hp) : Prop := ∃ (ys : List V) (cs : List Tie), Same H1 H ∧ H D = some (.lst ys) ∧ DpAll K H ys (cs.map tieD) ∧ cs.length ≤ i ∧ ∀ x ∈ cs, x ∈ ts
theorem picked_on {K : PySem.W.Frag} {H1 H : Hp} {D : Addr} {ts : List Tie} {i : Nat} {v : V} {t : Tie} (nD : H1 D = none) (P : Picked K H1 D ts i H) (hi : i < 500) (hv : Dp K H v (tieD t)) (ht : t ∈ ts) :
    ∃ acc, H D = some (.lst acc) ∧ acc.length < sizeLine ∧ Picked K H1 D ts (i + 1) (upd H D (.lst (acc ++ [v]))) := by
  obtain ⟨ys, cs, s1, hD, dp, lc, mem⟩ := P
  have ly : ys.length = cs.length := dp_len dp
  have tk : TupK H (upd H D (.lst (ys ++ [v]))) := TupK.but (p := D) But.set (by rw [hD]; exact True.intro)
  refine ⟨ys, hD, small1000 (by omega), ys ++ [v], cs ++ [t], fun b o e => ?_, upd_same, ties_k tk (dp_snoc dp hv), (by rw [List.length_append, List.length_singleton]; omega), fun x hx => ?_⟩
  · rw [upd_ne (ne_of_none e nD)]
    exact s1 _ _ e
  · rcases List.mem_append.mp hx with z | z
    · exact mem x z
    · rw [List.mem_singleton.mp z]; exact ht
theorem picked_no {K : PySem.W.Frag} {H1 H : Hp} {D : Addr} {ts : List Tie} {i : Nat} (P : Picked K H1 D ts i H) : Picked K H1 D ts (i + 1) H := by
  obtain ⟨ys, cs, s1, hD, dp, lc, mem⟩ := P
  exact ⟨ys, cs, s1, hD, dp, Nat.le_succ_of_le lc, mem⟩
theorem picked_start {K : PySem.W.Frag} {H1 : Hp} {D : Addr} {ts : List Tie} (nD : H1 D = none) : Picked K H1 D ts 0 (upd H1 D (.lst [])) := ⟨[], [], same_upd nD, upd_same, .nil, Nat.le_refl _, fun _ z => nomatch z⟩
abbrev nTurn : List Str := ["self", "net", "before", "after", "came", "tie"]
section
variable {P : Program} {w : World} {K : PySem.W.Frag} {mg : Str → Option Value} {base : Heap}
theorem scTu : FnScope nTurn ["self", "net"] (defScope (sKeep 1)) := ⟨rfl, rfl, rfl, by decide +kernel, rfl, by decide +kernel, by decide +kernel⟩
theorem ok_turn {f C fTh fS fR : Addr} {fd fdTh fdS fdR : FuncData} (F : Fun K "turn" "Keeper.turn" (sKeep 1) f fd) (T : KTxt K mg C) (Th : At K mg "thinned" "thinned" sThin fTh fdTh) (bTh : Binds K fdTh ["net", "times"] []) (GTh : FnOk P w K mg base CX0 5 fTh fdTh ["net", "times"] (spThin K))
    (S : At K mg "order_of" "order_of" sOrder fS fdS) (bS : Binds K fdS ["ties"] []) (R : At K mg "rank" "rank" sRank fR fdR) (B : Blt mg) : FnOk P w K mg base CX0 6 f fd ["self", "net"] (spTurn K C) := by
  have GS : FnOk P w K mg base CX0 2 fS fdS ["ties"] (spOrder K) := ok_order S R B
  refine F.ok scTu (fun vs H Q E h => ?_) (fun cdv A outer s H vs Q E hr h => ?_)
  · obtain ⟨p, n, ps, qs, ts, us, ks, rfl, _⟩ := h
    rfl
  · obtain ⟨p, n, ps, qs, ts, us, ks, rfl, ⟨dx, t, v, u, hp, ht, hv, hu, sub, few0⟩, hn, ok1, ok2, few, fewk, k⟩ := h
    have hr2 : Room 2 _ := hr.mono (by decide)
    have hu65 : (A.deeper (envOfC "Keeper.turn" (defScope (sKeep 1)) s.heap.objs.size f cdv)).units + 65 < cLine := by
      have := hr.un
      omega
    refine ⟨_, pss_cons (ps_set (i := 2) scTu.nd rfl (Or.inr rfl) (pe_ix ix_tup (pe_fld (pv 0) rfl) pe_int (fun _ _ => rfl)))
      (pss_cons (ps_fld (pv 0) (pv 1) rfl)
      (pss_cons (ps_fld (pv 0) (pe_call GTh hr (by rfl) Th.g Th.F.kp bTh .nil pass0 (pa_cons (pv 1) (pa_cons (pe_fld (pv 0) rfl) pa_nil))) rfl)
      (pss_cons (ps_set (i := 3) scTu.nd rfl (Or.inr rfl) (pe_ix ix_tup (pe_fld (pv 0) rfl) pe_int (fun _ _ => rfl)))
      (pss_cons (ps_set (i := 4) scTu.nd rfl (Or.inl rfl) (pe_call GS hr2 (by rfl) S.g S.F.kp bS .nil pass0 (pa_cons
        (pe_lc (own := [("tie", 5)]) (g := gName 5) (by rfl) scTu.nd (pi_tup (pv 3)) (blkOk_by (N := nTurn) (sc := defScope (sKeep 1)) (by decide +kernel)) (fun _ _ _ _ _ => pg_name (i := 5) scTu.nd rfl (Or.inl rfl))
          (fun _ _ _ _ _ => pts_one (pt_cmpR (r := rNotInT K) (op_notInT hu65) (pv 5) (pv 2) (by rfl))) (fun _ _ _ _ _ => pv 5)) pa_nil)))
      (pss_one (ps_ret (pe_tup (pa_cons (pv 4) (pa_cons (pe_call GS hr2 (by rfl) S.g S.F.kp bS .nil pass0 (pa_cons
        (pe_lc (own := [("tie", 5)]) (g := gName 5) (by rfl) scTu.nd (pi_tup (pv 2)) (blkOk_by (N := nTurn) (sc := defScope (sKeep 1)) (by decide +kernel)) (fun _ _ _ _ _ => pg_name (i := 5) scTu.nd rfl (Or.inl rfl))
          (fun _ _ _ _ _ => pts_one (pt_cmpR (r := rNotInT K) (op_notInT hu65) (pv 5) (pv 3) (by rfl))) (fun _ _ _ _ _ => pv 5)) pa_nil)) pa_nil))))))))), ?_⟩
    obtain ⟨ua, upl, ut, uxs, rfl, u1, u2, u3, u4⟩ := net_of hu
    refine ⟨_, rfl, p, C, dx, _, _, rfl, hp, T.cl, T.nH, flds_h _ _ _, ua, _, _, _, rfl, rfl, u1, rfl, ?_⟩
    refine ⟨_, rfl, _, rfl, p, C, dx, _, rfl, hp, T.cl, T.nN, flds_len _ _ _, ?_⟩
    have hp2 : (upd H p (.ins C dx (putF "own_net" n (flds t v (.ref ua))))) p = some (.ins C dx (flds t n (.ref ua))) := by rw [upd_same, flds_putN]
    have t2 : TupK H (upd H p (.ins C dx (putF "own_net" n (flds t v (.ref ua))))) := TupK.but (p := p) But.set (by rw [hp]; exact True.intro)
    have b2 : But p H (upd H p (.ins C dx (putF "own_net" n (flds t v (.ref ua))))) := But.set
    generalize upd H p (.ins C dx (putF "own_net" n (flds t v (.ref ua)))) = H2 at hp2 t2 b2
    refine ⟨_, rfl, _, rfl, p, C, dx, _, _, rfl, hp2, T.cl, T.nT, flds_t _ _ _, n, t, ps, ts, rfl, net_k t2 hn, ht.same t2, few, fun H3 u3' cs s3 d3 sub3 few3 => ?_⟩
    have hp3 := s3 _ _ hp2
    refine ⟨_, rfl, p, C, dx, _, rfl, hp3, T.cl, T.nH, flds_len _ _ _, ?_⟩
    have hp4 : (upd H3 p (.ins C dx (putF "own_thin" u3' (flds t n (.ref ua))))) p = some (.ins C dx (flds t n u3')) := by rw [upd_same, flds_putH]
    have t4 : TupK H3 (upd H3 p (.ins C dx (putF "own_thin" u3' (flds t n (.ref ua))))) := TupK.but (p := p) But.set (by rw [hp3]; exact True.intro)
    have b4 : But p H (upd H3 p (.ins C dx (putF "own_thin" u3' (flds t n (.ref ua))))) := (b2.trans (But.of s3)).trans But.set
    generalize upd H3 p (.ins C dx (putF "own_thin" u3' (flds t n (.ref ua)))) = H4 at hp4 t4 b4
    have t04 : TupK H H4 := t2.trans ((TupK.of s3).trans t4)
    have d4 := net_k t4 d3
    have K4 : KeepAt K C H4 p ps ts cs := ⟨dx, t, n, u3', hp4, ht.same t04, net_k t04 hn, d4, sub3, few3⟩
    obtain ⟨aa, apl, at', axs, rfl, a1, a2, a3, a4⟩ := net_of d4
    have okc : TOk cs := fun x hx => ok1 x (sub3 x hx)
    have lax : axs.length = cs.length := dp_len a4
    have lux : uxs.length = ks.length := dp_len u4
    refine ⟨_, rfl, p, C, dx, _, _, rfl, hp4, T.cl, T.nH, flds_h _ _ _, aa, _, _, _, rfl, rfl, a1, rfl, ?_⟩
    -- the first comprehension
    refine ⟨_, rfl, at', rfl, ⟨_, a3⟩, fun D nD => ?_⟩
    refine lc_tup (K := K) (a := at') (xs := axs) (Picked K H4 D cs) (picked_start nD) (fun i H5 _ ⟨_, _, s5, _⟩ => seqT_same s5 a3) ?_ ?_
    · intro i y H5 hi Pk
      obtain ⟨_, _, s5, _⟩ := id Pk
      obtain ⟨x, hx, dv⟩ := dp_at (DpAll_same s5 a4) hi
      have hil := (List.getElem?_eq_some_iff.mp hi).1
      have mx : x ∈ cs := List.mem_of_getElem? hx
      refine ⟨rfl, ?_⟩
      refine ⟨_, rfl, _, rfl, _, _, dv, .tup (seqT_same s5 (t04.seq u3)) (DpAll_same s5 (ties_k t04 u4)), tie_shaped (okc x mx), ties_shaped ok2, _, rfl, ?_⟩
      refine ite2 (fun _ => ?_) (fun _ => picked_no Pk)
      refine ⟨_, rfl, ?_⟩
      exact picked_on nD Pk (by omega) dv mx
    · rintro H5 ⟨ys, cs5, s5, hD, dp5, lc5, mem5⟩
      refine ⟨D, ys, cs5, rfl, .inl (SqL.of hD), dp5, fun H6 q6 ys6 cs6 n6 s6 hq6 pm6 dp6 => ?_⟩
      have s46 := s5.trans s6
      refine ⟨_, rfl, _, rfl, ut, rfl, ⟨_, seqT_same s46 (t04.seq u3)⟩, fun D2 nD2 => ?_⟩
      refine lc_tup (K := K) (a := ut) (xs := uxs) (Picked K H6 D2 ks) (picked_start nD2) (fun i H7 _ ⟨_, _, s7, _⟩ => seqT_same (s46.trans s7) (t04.seq u3)) ?_ ?_
      · intro i y H7 hi Pk
        obtain ⟨_, _, s7, _⟩ := id Pk
        have s47 := s46.trans s7
        obtain ⟨x, hx, dv⟩ := dp_at (DpAll_same s47 (ties_k t04 u4)) hi
        have hil := (List.getElem?_eq_some_iff.mp hi).1
        have mx : x ∈ ks := List.mem_of_getElem? hx
        refine ⟨rfl, ?_⟩
        refine ⟨_, rfl, _, rfl, _, _, dv, .tup (seqT_same s47 a3) (DpAll_same s47 a4), tie_shaped (ok2 x mx), ties_shaped okc, _, rfl, ?_⟩
        refine ite2 (fun _ => ?_) (fun _ => picked_no Pk)
        refine ⟨_, rfl, ?_⟩
        exact picked_on nD2 Pk (by omega) dv mx
      · rintro H7 ⟨ys7, cs7, s7, hD7, dp7, lc7, mem7⟩
        refine ⟨D2, ys7, cs7, rfl, .inl (SqL.of hD7), dp7, fun H8 q8 ys8 cs8 n8 s8 hq8 pm8 dp8 => ⟨(by show 2 ≤ sizeLine; decide), fun q nq => ?_⟩⟩
        have s48 := (s46.trans s7).trans (s8.trans (same_upd (o := .tup [.ref q6, .ref q8]) nq))
        exact k _ _ cs (b4.trans (But.of s48)) (K4.same s48)
end
end L2.T
set_option maxHeartbeats 2000000
namespace L2.T
open PySem PySem.Spec PyProof.Rows
open PySem.W (dataLt dataLe alike AllAlike Sortable EachIs)
open Thin
/-- an error class of the text -/
structure Er (K : PySem.W.Frag) (mg : Str → Option Value) (x : Str) (C : Addr) : Prop where
  q : PySem.W.excIn K C [.type "ValueError", .type "Exception", .type "BaseException", .type "object"] "ValueError.__new__" = true
  g : mg x = some (.ref C)
  kp : PySem.W.keepIn K (.ref C) = true
  sub : PySem.W.subIn K (.ref C) (.type "BaseException") = some true
  ty : PySem.W.typeIn K (.ref C) = some (.type "type")
structure Errs (K : PySem.W.Frag) (mg : Str → Option Value) (er : Str → Addr) : Prop where
  tw : Er K mg "Twice" (er "twice")
  mn : Er K mg "TooMany" (er "many")
  pl : Er K mg "NoPlace" (er "place")
  ti : Er K mg "NoTie" (er "tie")
/-- what a deed that the keeper is told comes to -/
def Told (K : PySem.W.Frag) (C : Addr) (er : Str → Addr) (H : Hp) (p : Addr) (ps : List Str) (ts ks : List Tie) (d : Deed) (Q : VK) (E : XK) : Prop :=
  (due ps ts d = "ok" → ∀ (H' : Hp) (r : V) (ps' : List Str) (ts' ks' : List Tie), But p H H' → KeepAt K C H' p ps' ts' ks' → After ps ts d ps' ts' → (d.word = "far" → ks' = ks) → Q r H') ∧
  (due ps ts d ≠ "ok" → ∀ H', Same H H' → E (.ref (er (due ps ts d))) none H')
theorem no_twice : ¬ ("twice" : Str) = "ok" := by decide +kernel
theorem no_many : ¬ ("many" : Str) = "ok" := by decide +kernel
theorem no_place : ¬ ("place" : Str) = "ok" := by decide +kernel
theorem no_tie : ¬ ("tie" : Str) = "ok" := by decide +kernel
theorem Told.bad {K : PySem.W.Frag} {C : Addr} {er : Str → Addr} {H : Hp} {p : Addr} {ps : List Str} {ts ks : List Tie} {d : Deed} {Q : VK} {E : XK} (h : Told K C er H p ps ts ks d Q E) {e : Str} (he : due ps ts d = e) (n : ¬ e = "ok") {H' : Hp} (s : Same H H') : E (.ref (er e)) none H' := by
  subst he
  exact h.2 n H' s
theorem Told.good {K : PySem.W.Frag} {C : Addr} {er : Str → Addr} {H : Hp} {p : Addr} {ps : List Str} {ts ks : List Tie} {d : Deed} {Q : VK} {E : XK} (h : Told K C er H p ps ts ks d Q E) (he : due ps ts d = "ok") {H' : Hp} {r : V} {ps' : List Str} {ts' ks' : List Tie}
    (b : But p H H') (k : KeepAt K C H' p ps' ts' ks') (a : After ps ts d ps' ts') (f : ¬ d.word = "far") : Q r H' := h.1 he H' r ps' ts' ks' b k a fun z => absurd z f
theorem inV_strs (x : Str) : ∀ ps : List Str, inV (.str x) (ps.map V.str) = decide (x ∈ ps)
  | [] => by simp [inV]
  | p :: ps => by
    have ih := inV_strs x ps
    have e : inV (.str x) ((p :: ps).map V.str) = ((p == x) || inV (.str x) (ps.map V.str)) := by simp [inV, eqV]
    rw [e, ih, beq_str]
    by_cases c : p = x
    · simp [c]
    · have c2 : ¬ x = p := fun z => c z.symm
      simp [c, c2]
theorem flat_strs (ps : List Str) : (ps.map V.str).all flatV = true := by simp [flatV]
theorem TOk.of {ps : List Str} {ts : List Tie} (N : NetOk ps ts) : TOk ts := fun t h => ⟨N.inPool _ (N.ends t h).1, N.inPool _ (N.ends t h).2.1⟩
def spAsk (K : PySem.W.Frag) (C : Addr) (er : Str → Addr) : Sp := fun vs H Q E => ∃ (p l : Addr) (ps as : List Str) (ts ks : List Tie), vs = [.ref p, .ref l] ∧ KeepAt K C H p ps ts ks ∧ SqL K H l (as.map V.str) ∧
  ((∀ a ∈ as, a ∈ ps) → Q .non H) ∧ (¬ (∀ a ∈ as, a ∈ ps) → E (.ref (er "place")) none H)
section
variable {P : Program} {w : World} {K : PySem.W.Frag} {mg : Str → Option Value} {base : Heap} {er : Str → Addr}
theorem scAs : FnScope ["self", "names", "name"] ["self", "names"] (defScope (sKeep 2)) := ⟨rfl, rfl, rfl, by decide +kernel, rfl, by decide +kernel, by decide +kernel⟩
theorem ok_ask {f C : Addr} {fd : FuncData} (F : Fun K "ask_places" "Keeper.ask_places" (sKeep 2) f fd) (T : KTxt K mg C) (R : Er K mg "NoPlace" (er "place")) : FnOk P w K mg base (L2.CX P w) 1 f fd ["self", "names"] (spAsk K C er) := by
  refine F.okX scAs (fun vs H Q E h => ?_) (fun cdv A outer s H vs Q E hr h => ?_)
  · obtain ⟨p, l, ps, as, ts, ks, rfl, _⟩ := h
    rfl
  · obtain ⟨p, l, ps, as, ts, ks, rfl, ⟨dx, t, v, u, hp, ht, hv, hu, sub, few0⟩, hl, kq, ke⟩ := h
    refine ⟨_, pss_one (ps_for (passes_of rfl) rfl (pi_list (pv 1)) (pg_name (i := 2) scAs.nd rfl (Or.inl rfl))
      (pss_one (ps_if (pt_cmpR op_notIn_seq (pv 2) (pe_ix ix_tup (pe_fld (pv 0) rfl) pe_int (fun _ _ => rfl)) (by rfl))
        (pss_one (ps_raise rfl (takes_of rfl rfl rfl rfl) (SkE.pmk_own1 PySem.F.excBase_ValueError R.q R.g R.kp (raises_own R.sub R.ty) (by rfl) (pv 2)))) pss_nil))), ?_⟩
    obtain ⟨a, pa, ta, xs, rfl, h1, h2, h3, h4⟩ := net_of hv
    refine ⟨_, rfl, l, rfl, ⟨_, hl⟩, for_list (K := K) (a := l) (xs := as.map V.str) (fun i σ H' => H' = H ∧ ∃ s2, σ = [some (.ref p), some (.ref l), s2] ∧ ∀ a ∈ as.take i, a ∈ ps)
      ⟨rfl, _, rfl, fun _ z => nomatch z⟩ (fun i σ H' _ ⟨e, _⟩ => by rw [e]; exact hl) ?_ ?_⟩
    · rintro i y σ H' hi ⟨rfl, s2, rfl, mem⟩
      rw [List.getElem?_map] at hi
      cases e : as[i]? with
      | none => rw [e] at hi; cases hi
      | some x =>
        rw [e] at hi
        obtain rfl : V.str x = y := Option.some.inj hi
        refine ⟨_, rfl, _, rfl, p, C, dx, _, _, rfl, hp, T.cl, T.nN, flds_n _ _ _, a, _, _, _, rfl, rfl, h1, rfl, pa, _, rfl, .inr h2, rfl, flat_strs ps, _, rfl, ?_⟩
        have q := inV_strs x ps
        refine ite2 (fun c => ?_) (fun c => ?_)
        · have nx : ¬ x ∈ ps := fun z => by
            rw [q, decide_eq_true z] at c
            cases c
          exact ⟨_, rfl, ke fun z => nx (z x (List.mem_of_getElem? e))⟩
        · have hx : x ∈ ps := by
            by_cases z : x ∈ ps
            · exact z
            · exact absurd (show (if true = true then !inV (V.str x) (ps.map V.str) else inV (V.str x) (ps.map V.str)) = true by rw [if_pos rfl, q, decide_eq_false z]; rfl) c
          refine ⟨rfl, _, rfl, fun b hb => ?_⟩
          rw [List.take_add_one, e] at hb
          rcases List.mem_append.mp hb with z | z
          · exact mem b z
          · have z' : b ∈ [x] := z
            rw [List.mem_singleton.mp z']; exact hx
    · rintro σ H' ⟨rfl, s2, rfl, mem⟩
      refine kq fun b hb => mem b ?_
      rw [List.length_map, List.take_length]
      exact hb
end
end L2.T
set_option maxHeartbeats 2000000
namespace L2.T
open PySem PySem.Spec PyProof.Rows
open PySem.W (dataLt dataLe alike AllAlike Sortable EachIs)
open Thin
theorem str_sortable (ps : List Str) : Sortable (ps.map PyData.str) := PySem.W.Sortable.others fun b => ⟨(fun z => PyData.noConfusion z), (fun xs z => PyData.noConfusion z)⟩
theorem str_depth (x : Str) : (PyData.str x).depth ≤ 8 := by simp [PyData.depth]
theorem catA_any {K : PySem.W.Frag} {H : Hp} {Q : VK} {a b : Addr} {xs ys : List V} (ha : SqT K H a xs) (hb : SqT K H b ys) (hl : xs.length + ys.length ≤ sizeLine) (q : ∀ (H' : Hp) (z : Addr), Same H H' → SqT K H' z (xs ++ ys) → Q (.ref z) H') : rCatA K (.ref a) (.ref b) H Q := by
  refine ⟨a, b, xs, ys, rfl, rfl, ha, hb, hl, fun e => ?_, fun _ e => ?_, fun _ _ p np => q _ p (same_upd np) (SqT.of upd_same)⟩
  · subst e
    exact q H b (Same.refl H) hb
  · subst e
    exact q H a (Same.refl H) (by rw [List.append_nil]; exact ha)
def spCome (K : PySem.W.Frag) (C : Addr) (er : Str → Addr) : Sp := fun vs H Q E => ∃ (p : Addr) (a : Str) (ps : List Str) (ts ks : List Tie), vs = [.ref p, .str a] ∧ KeepAt K C H p ps ts ks ∧ NetOk ps ts ∧ a ∈ pool ∧ Told K C er H p ps ts ks (.come a) Q E
section
variable {P : Program} {w : World} {K : PySem.W.Frag} {mg : Str → Option Value} {base : Heap} {er : Str → Addr}
theorem scCo : FnScope ["self", "name", "places", "ties"] ["self", "name"] (defScope (sKeep 3)) := ⟨rfl, rfl, rfl, by decide +kernel, rfl, by decide +kernel, by decide +kernel⟩
theorem ok_come {f C fT : Addr} {fd fdT : FuncData} {m24 : Tok} (F : Fun K "come" "Keeper.come" (sKeep 3) f fd) (T : KTxt K mg C) (R : Errs K mg er) (M : Me K C "turn" "Keeper.turn" (sKeep 1) fT fdT) (bT : Binds K fdT ["self", "net"] [])
    (GT : FnOk P w K mg base CX0 6 fT fdT ["self", "net"] (spTurn K C)) (mp : mg "MOST_PLACES" = some (.int 24 m24)) (B : Blt mg) : FnOk P w K mg base (L2.CX P w) 7 f fd ["self", "name"] (spCome K C er) := by
  refine F.okX scCo (fun vs H Q E h => ?_) (fun cdv A outer s H vs Q E hr h => ?_)
  · obtain ⟨p, a, ps, ts, ks, rfl, _⟩ := h
    rfl
  · obtain ⟨p, a, ps, ts, ks, rfl, KA, N, ha, told⟩ := h
    obtain ⟨dx, t, v, u, hp, ht, hv, hu, sub, few0⟩ := id KA
    refine ⟨_, pss_cons (ps_asg (pe_fld (pv 0) rfl) (pg_tup (by rfl) (pgs_cons (pg_name (i := 2) scCo.nd rfl (Or.inl rfl)) (pgs_cons (pg_name (i := 3) scCo.nd rfl (Or.inl rfl)) pgs_nil))))
      (pss_cons (ps_if (pt_cmpR op_in_seq (pv 1) (pv 2) (by rfl)) (pss_one (ps_raise rfl (takes_of rfl rfl rfl rfl) (SkE.pmk_own1 PySem.F.excBase_ValueError R.tw.q R.tw.g R.tw.kp (raises_own R.tw.sub R.tw.ty) (by rfl) (pv 1)))) pss_nil)
      (pss_cons (ps_if (pt_cmpR op_eq (pe_callB call_len_seq (by rfl) B.len PySem.boot_len (pa_cons (pv 2) pa_nil)) (pe_glob (v := .int 24) (by rfl) mp ⟨_, rfl⟩) (nomark _))
        (pss_one (ps_raise rfl (takes_of rfl rfl rfl rfl) (SkE.pmk_own1 PySem.F.excBase_ValueError R.mn.q R.mn.g R.mn.kp (raises_own R.mn.sub R.mn.ty) (by rfl) pe_str))) pss_nil)
      (pss_one (ps_ret (pe_meth (pv 0) T.cl M.m GT hr bT .nil pass0 (pa_cons (pe_tup (pa_cons (pe_callTy call_tuple_of (by rfl) B.tuple (by decide +kernel) (pa_cons (pe_callB (cr_sortD hr.units) (by rfl) B.sorted (by decide +kernel)
        (pa_cons (pe_op op_catA (pv 2) (pe_tup (pa_cons (pv 1) pa_nil))) pa_nil)) pa_nil)) (pa_cons (pv 3) pa_nil))) pa_nil)))))), ?_⟩
    obtain ⟨n, pa, ta, xs, rfl, h1, h2, h3, h4⟩ := net_of hv
    refine ⟨_, rfl, p, C, dx, _, _, rfl, hp, T.cl, T.nN, flds_n _ _ _, n, _, rfl, h1, rfl, _, _, rfl, _, _, rfl, rfl, ?_⟩
    refine ⟨_, rfl, _, rfl, pa, _, rfl, .inr h2, rfl, flat_strs ps, _, rfl, ?_⟩
    have q := inV_strs a ps
    refine ite2 (fun c => ?_) (fun c => ?_)
    · have hin : a ∈ ps := by
        by_cases z : a ∈ ps
        · exact z
        · rw [if_neg Bool.false_ne_true, q, decide_eq_false z] at c
          cases c
      exact ⟨_, rfl, told.bad (e := "twice") (by simp only [due]; rw [if_pos hin]) no_twice (Same.refl H)⟩
    · have nin : ¬ a ∈ ps := fun z => c (by rw [if_neg Bool.false_ne_true, q]; exact decide_eq_true z)
      refine ⟨_, rfl, pa, _, rfl, .inr h2, rfl, _, rfl, ?_⟩
      refine ite2 (fun c2 => ?_) (fun c2 => ?_)
      · have e24 : ps.length = 24 := by
          have z := of_decide_eq_true c2
          injection z with z
          rw [List.length_map] at z
          omega
        exact told.bad (e := "many") (by simp only [due]; rw [if_neg nin, if_pos e24]) no_many (Same.refl H)
      · have n24 : ¬ ps.length = 24 := fun z => c2 (decide_eq_true (by rw [List.length_map, z]; rfl))
        have isok : due ps ts (.come a) = "ok" := by simp only [due]; rw [if_neg nin, if_neg n24]
        have f24 := N.few
        refine ⟨_, rfl, p, dx, _, rfl, hp, flds_no _ _ _ (by decide +kernel) (by decide +kernel) (by decide +kernel), ?_⟩
        refine ⟨_, rfl, _, rfl, (by show 1 ≤ sizeLine; decide), fun q1 nq1 => ?_⟩
        have s1 : Same H (upd H q1 (.tup [.str a])) := same_upd nq1
        refine catA_any (seqT_same s1 h2) (SqT.of upd_same) (by rw [List.length_map]; have := small1000 (n := 25) (by decide); show ps.length + 1 ≤ sizeLine; omega) (fun H2 z s2 hz => ?_)
        have ez : ps.map V.str ++ [V.str a] = (ps ++ [a]).map V.str := by rw [List.map_append]; rfl
        rw [ez] at hz
        refine ⟨Str, z, _, ps ++ [a], PyData.str, rfl, .inr hz, strs_dp _, str_alike _, str_sortable _, fun b _ => str_depth b, fun q2 zs cs nq2 pm up dd => ?_⟩
        refine ⟨q2, zs, rfl, .inl ⟨SqL.of upd_same, fun l nl => ⟨_, rfl, (by show 2 ≤ sizeLine; decide), fun u2 nu => ?_⟩⟩⟩
        have s3 : Same H2 (upd H2 q2 (.lst zs)) := same_upd nq2
        have s4 := same_upd (o := .tup zs) nl
        have s5 := same_upd (o := .tup [.ref l, .ref ta]) nu
        have sAll : Same H _ := s1.trans (s2.trans (s3.trans (s4.trans s5)))
        have ezs : zs = cs.map V.str := dp_strs dd
        have tok : TOk ks := fun x hx => TOk.of N x (sub x hx)
        refine ⟨p, .ref u2, cs, ps, ts, ts, ks, rfl, KA.same sAll, net_to (SqT.of upd_same) (seqT_same s5 (SqT.of (by rw [upd_same, ezs]))) (seqT_same sAll h3) (DpAll_same sAll h4), TOk.of N, tok, N.tfew, Nat.le_trans few0 N.tfew, fun H' r ks' b k => ?_⟩
        refine told.good isok ((But.of sAll).trans b) k ⟨pm, up.imp fun {x y} z => ?_, rfl⟩ (show ¬ ("come" : Str) = "far" by decide +kernel)
        rw [Thin.lt_str] at z
        exact of_decide_eq_false z
end
end L2.T
set_option maxHeartbeats 2000000
namespace L2.T
open PySem PySem.Spec PyProof.Rows
open PySem.W (dataLt dataLe alike AllAlike Sortable EachIs)
open Thin
/-- those of l that f picks, of the first i -/
def PickF {β : Type} (K : PySem.W.Frag) (H1 : Hp) (D : Addr) (enc : β → PyData) (l : List β) (f : β → Bool) (i : Nat) (H : Hp) : Prop := ∃ ys : List V, Same H1 H ∧ H D = some (.lst ys) ∧ DpAll K H ys (((l.take i).filter f).map enc)
theorem pickF_start {β : Type} {K : PySem.W.Frag} {H1 : Hp} {D : Addr} {enc : β → PyData} {l : List β} {f : β → Bool} (nD : H1 D = none) : PickF K H1 D enc l f 0 (upd H1 D (.lst [])) := ⟨[], same_upd nD, upd_same, .nil⟩
theorem pickF_on {β : Type} {K : PySem.W.Frag} {H1 H H3 : Hp} {D : Addr} {enc : β → PyData} {l : List β} {f : β → Bool} {i : Nat} {b : β} {v : V} (nD : H1 D = none) (P : PickF K H1 D enc l f i H) (s : Same H H3) (hb : l[i]? = some b) (fb : f b = true) (hv : Dp K H3 v (enc b))
    (nl : ∀ b, noL (enc b) = true) (hi : i < 500) : ∃ acc, H3 D = some (.lst acc) ∧ acc.length < sizeLine ∧ PickF K H1 D enc l f (i + 1) (upd H3 D (.lst (acc ++ [v]))) := by
  obtain ⟨ys, s1, hD, dp⟩ := P
  have ly : ys.length = ((l.take i).filter f).length := dp_len dp
  have l2 : ((l.take i).filter f).length ≤ i := Nat.le_trans (List.length_filter_le _ _) (by rw [List.length_take]; omega)
  have hD3 := s _ _ hD
  have tk : TupK H3 (upd H3 D (.lst (ys ++ [v]))) := TupK.but (p := D) But.set (by rw [hD3]; exact True.intro)
  refine ⟨ys, hD3, small1000 (by omega), ys ++ [v], fun c o e => ?_, upd_same, ?_⟩
  · rw [upd_ne (ne_of_none e nD)]
    exact s _ _ (s1 _ _ e)
  · rw [List.take_add_one, hb, List.filter_append]
    have e : (some b).toList.filter f = [b] := by simp [fb]
    rw [e]
    exact DpAll_k tk (noL_map nl _) (dp_snoc (DpAll_same s dp) hv)
theorem pickF_no {β : Type} {K : PySem.W.Frag} {H1 H H3 : Hp} {D : Addr} {enc : β → PyData} {l : List β} {f : β → Bool} {i : Nat} {b : β} (P : PickF K H1 D enc l f i H) (s : Same H H3) (hb : l[i]? = some b) (fb : f b = false) : PickF K H1 D enc l f (i + 1) H3 := by
  obtain ⟨ys, s1, hD, dp⟩ := P
  refine ⟨ys, s1.trans s, s _ _ hD, ?_⟩
  rw [List.take_add_one, hb, List.filter_append]
  have e : (some b).toList.filter f = [] := by simp [fb]
  rw [e, List.append_nil]
  exact DpAll_same s dp
theorem eqv_pr (k j : Str × Str) : PyData.eqv (prD k) (prD j) = decide (k = j) := by
  have e : PyData.eqv (prD k) (prD j) = (PyData.eqv (.str k.1) (.str j.1) && (PyData.eqv (.str k.2) (.str j.2) && true)) := by simp [prD, PyData.eqv, PyData.eqvAll]
  rw [e, eqv_str, eqv_str]
  by_cases c : k = j
  · rw [c]; simp
  · rw [decide_eq_false c]
    by_cases c1 : k.1 = j.1
    · have c2 : ¬ k.2 = j.2 := fun z => c (Prod.ext c1 z)
      simp [c1, c2]
    · simp [c1]
theorem pr_shaped {k : Str × Str} (h1 : k.1 ∈ pool) (h2 : k.2 ∈ pool) : SeqAt.shaped (prD k) = true := by
  have a := pool_ok _ h1
  have b := pool_ok _ h2
  unfold SeqAt.shaped
  have e : (prD k).canLay0 = true := by simp [prD, PyData.canLay0, PyData.canLayAll0, a, b]
  rw [e, Bool.true_and]
  exact decide_eq_true (by simp [prD, PyData.depth, PyData.depthAll])
theorem strs_noL (x : Str) : noL (.str x) = true := by simp [noL]
def spGo (K : PySem.W.Frag) (C : Addr) (er : Str → Addr) : Sp := fun vs H Q E => ∃ (p : Addr) (a : Str) (ps : List Str) (ts ks : List Tie), vs = [.ref p, .str a] ∧ KeepAt K C H p ps ts ks ∧ NetOk ps ts ∧ Told K C er H p ps ts ks (.go a) Q E
def spRest (K : PySem.W.Frag) (C : Addr) : Sp := fun vs H Q _ => ∃ (p : Addr) (a b : Str) (ps : List Str) (ts ks : List Tie), vs = [.ref p, .str a, .str b] ∧ KeepAt K C H p ps ts ks ∧ NetOk ps ts ∧ a ∈ pool ∧ b ∈ pool ∧
  ∀ (H' : Hp) (l : Addr) (ys : List V), Same H H' → H' l = some (.lst ys) → DpAll K H' ys ((Thin.rest (pr a b) ts).map tieD) → Q (.ref l) H'
abbrev nGo : List Str := ["self", "name", "places", "ties", "rest", "place", "tie"]
abbrev nRest : List Str := ["self", "a", "b", "pair", "tie"]
section
variable {P : Program} {w : World} {K : PySem.W.Frag} {mg : Str → Option Value} {base : Heap} {er : Str → Addr}
theorem scGo : FnScope nGo ["self", "name"] (defScope (sKeep 4)) := ⟨rfl, rfl, rfl, by decide +kernel, rfl, by decide +kernel, by decide +kernel⟩
theorem ok_go {f C fT fA : Addr} {fd fdT fdA : FuncData} (F : Fun K "go" "Keeper.go" (sKeep 4) f fd) (T : KTxt K mg C) (M : Me K C "turn" "Keeper.turn" (sKeep 1) fT fdT) (bT : Binds K fdT ["self", "net"] [])
    (GT : FnOk P w K mg base CX0 6 fT fdT ["self", "net"] (spTurn K C)) (MA : Me K C "ask_places" "Keeper.ask_places" (sKeep 2) fA fdA) (bA : Binds K fdA ["self", "names"] []) (GA : FnOk P w K mg base (L2.CX P w) 1 fA fdA ["self", "names"] (spAsk K C er))
    (B : Blt mg) : FnOk P w K mg base (L2.CX P w) 7 f fd ["self", "name"] (spGo K C er) := by
  refine F.okX scGo (fun vs H Q E h => ?_) (fun cdv A outer s H vs Q E hr h => ?_)
  · obtain ⟨p, a, ps, ts, ks, rfl, _⟩ := h
    rfl
  · obtain ⟨p, a, ps, ts, ks, rfl, KA, N, told⟩ := h
    have hr1 : Room 1 _ := hr.mono (by decide)
    refine ⟨_, pss_cons (ps_expr (pe_meth (pv 0) T.cl MA.m GA hr1 bA .nil (passes_call (takes_of rfl rfl rfl rfl) (fun _ _ _ _ h => h)) (pa_cons (pe_lst (pa_cons (pv 1) pa_nil)) pa_nil)))
      (pss_cons (ps_asg (pe_fld (pv 0) rfl) (pg_tup (by rfl) (pgs_cons (pg_name (i := 2) scGo.nd rfl (Or.inl rfl)) (pgs_cons (pg_name (i := 3) scGo.nd rfl (Or.inl rfl)) pgs_nil))))
      (pss_cons (ps_set (i := 4) scGo.nd rfl (Or.inl rfl) (pe_callTy call_tuple_of (by rfl) B.tuple (by decide +kernel) (pa_cons
        (pe_lc (own := [("place", 5)]) (g := gName 5) (by rfl) scGo.nd (pi_tup (pv 2)) (blkOk_by (N := nGo) (sc := defScope (sKeep 4)) (by decide +kernel)) (fun _ _ _ _ _ => pg_name (i := 5) scGo.nd rfl (Or.inl rfl))
          (fun _ _ _ _ _ => pts_one (pt_cmpR op_ne (pv 5) (pv 1) (nomark _))) (fun _ _ _ _ _ => pv 5)) pa_nil)))
      (pss_one (ps_ret (pe_meth (pv 0) T.cl M.m GT hr bT .nil pass0 (pa_cons (pe_tup (pa_cons (pv 4) (pa_cons (pe_callTy call_tuple_of (by rfl) B.tuple (by decide +kernel) (pa_cons
        (pe_lc (own := [("tie", 6)]) (g := gName 6) (by rfl) scGo.nd (pi_tup (pv 3)) (blkOk_by (N := nGo) (sc := defScope (sKeep 4)) (by decide +kernel)) (fun _ _ _ _ _ => pg_name (i := 6) scGo.nd rfl (Or.inl rfl))
          (fun _ _ _ _ _ => pts_one (pt_cmpR (r := rIn K true) op_notIn_seq (pv 1) (pe_slice (r := rSlT K) sl_tup (pv 6) po_none (po_some pe_int)) (by rfl))) (fun _ _ _ _ _ => pv 6)) pa_nil)) pa_nil))) pa_nil)))))), ?_⟩
    obtain ⟨dx, t, v, u, hp, ht, hv, hu, sub, few0⟩ := id KA
    refine ⟨_, rfl, p, dx, _, rfl, hp, flds_no _ _ _ (by decide +kernel) (by decide +kernel) (by decide +kernel), _, rfl, (by show 1 ≤ sizeLine; decide), fun l nl => ?_⟩
    have s1 : Same H (upd H l (.lst [.str a])) := same_upd nl
    refine ⟨p, l, ps, [a], ts, ks, rfl, KA.same s1, SqL.of upd_same, fun all => ?_, fun nall => told.bad (e := "place") ?_ no_place s1⟩
    rotate_left
    · simp only [due]
      rw [if_neg fun z => nall fun x hx => by rw [List.mem_singleton.mp hx]; exact z]
    have hin : a ∈ ps := all a List.mem_cons_self
    have isok : due ps ts (.go a) = "ok" := by simp only [due]; rw [if_pos hin]
    generalize upd H l (.lst [.str a]) = H1 at s1
    obtain ⟨n, pa, ta, xs, rfl, h1, h2, h3, h4⟩ := net_of hv
    refine ⟨_, rfl, p, C, dx, _, _, rfl, s1 _ _ hp, T.cl, T.nN, flds_n _ _ _, n, _, rfl, seqT_same s1 h1, rfl, _, _, rfl, _, _, rfl, rfl, ?_⟩
    refine ⟨_, rfl, pa, rfl, ⟨_, seqT_same s1 h2⟩, fun D nD => ?_⟩
    refine lc_tup (K := K) (a := pa) (xs := ps.map V.str) (PickF K H1 D PyData.str ps (fun x => decide (x ≠ a))) (pickF_start nD) (fun i H5 _ ⟨_, s5, _⟩ => seqT_same (s1.trans s5) h2) ?_ ?_
    · intro i y H5 hi Pk
      rw [List.getElem?_map] at hi
      cases e : ps[i]? with
      | none => rw [e] at hi; cases hi
      | some x =>
        rw [e] at hi
        obtain rfl : V.str x = y := Option.some.inj hi
        have hil := (List.getElem?_eq_some_iff.mp e).1
        have f24 := N.few
        refine ⟨rfl, _, rfl, _, rfl, rfl, _, rfl, ?_⟩
        refine ite2 (fun c => ?_) (fun c => ?_)
        · have nx : x ≠ a := fun z => by rw [z] at c; simp at c
          exact ⟨_, rfl, pickF_on nD Pk (Same.refl _) e (decide_eq_true nx) (.str x) strs_noL (by omega)⟩
        · have ex : x = a := by
            by_cases z : x = a
            · exact z
            · exact absurd (by simp [z]) c
          exact pickF_no Pk (Same.refl _) e (decide_eq_false fun z => z ex)
    · rintro H5 ⟨ys, s5, hD, dp5⟩
      rw [List.length_map, List.take_length] at dp5
      have eys := dp_strs dp5
      refine ⟨D, ys, rfl, .inl ⟨SqL.of hD, fun l2 nl2 => ?_⟩⟩
      have s6 : Same H5 (upd H5 l2 (.tup ys)) := same_upd nl2
      have s16 : Same H1 (upd H5 l2 (.tup ys)) := s5.trans s6
      have hl2 : (upd H5 l2 (.tup ys)) l2 = some (.tup ys) := upd_same
      generalize upd H5 l2 (.tup ys) = H6 at s6 s16 hl2
      have s06 := s1.trans s16
      refine ⟨_, rfl, p, dx, _, rfl, s06 _ _ hp, flds_no _ _ _ (by decide +kernel) (by decide +kernel) (by decide +kernel), _, rfl, _, rfl, ta, rfl, ⟨_, seqT_same s06 h3⟩, fun D2 nD2 => ?_⟩
      refine lc_tup (K := K) (a := ta) (xs := xs) (PickF K H6 D2 tieD ts (fun x => decide (¬ (x.1 = a ∨ x.2.1 = a)))) (pickF_start nD2) (fun i H7 _ ⟨_, s7, _⟩ => seqT_same (s06.trans s7) h3) ?_ ?_
      · intro i y H7 hi Pk
        obtain ⟨_, s7, _⟩ := id Pk
        obtain ⟨x, hx, dv⟩ := dp_at (DpAll_same (s06.trans s7) h4) hi
        have hil := (List.getElem?_eq_some_iff.mp hx).1
        have f60 := N.tfew
        obtain ⟨b, rfl, hb⟩ := tie_of dv
        refine ⟨rfl, _, rfl, _, rfl, _, rfl, b, _, rfl, hb, (by show ¬ (HT.sIx 3 0 none = 0 ∧ HT.sIx 3 3 (some 2) = 3); decide), fun q nq => ?_⟩
        have s8 : Same H7 (upd H7 q (.tup (cutV [.str x.1, .str x.2.1, .int x.2.2] none (some 2)))) := same_upd nq
        have ec : cutV [.str x.1, .str x.2.1, .int x.2.2] none (some 2) = [x.1, x.2.1].map V.str := rfl
        refine ⟨q, _, rfl, .inr (SqT.of upd_same), rfl, (by rw [ec]; exact flat_strs _), _, rfl, ?_⟩
        have q2 : inV (.str a) (cutV [.str x.1, .str x.2.1, .int x.2.2] none (some 2)) = decide (a ∈ [x.1, x.2.1]) := by rw [ec]; exact inV_strs a _
        refine ite2 (fun c => ?_) (fun c => ?_)
        · rw [if_pos rfl, q2] at c
          have nx : ¬ (x.1 = a ∨ x.2.1 = a) := fun z => by
            have z' : a ∈ [x.1, x.2.1] := by
              rcases z with z | z
              · rw [z]; simp
              · rw [z]; simp
            rw [decide_eq_true z'] at c
            cases c
          exact ⟨_, rfl, pickF_on nD2 Pk s8 hx (decide_eq_true nx) (Dp_same s8 dv) noL_tie (by omega)⟩
        · have ex : x.1 = a ∨ x.2.1 = a := by
            by_cases z : x.1 = a ∨ x.2.1 = a
            · exact z
            · refine absurd ?_ c
              rw [if_pos rfl, q2]
              have nz : ¬ a ∈ [x.1, x.2.1] := fun m => z (by
                rcases List.mem_cons.mp m with m | m
                · exact .inl m.symm
                · exact .inr (List.mem_singleton.mp m).symm)
              rw [decide_eq_false nz]
              rfl
          exact pickF_no Pk s8 hx (decide_eq_false fun z => z ex)
      · rintro H7 ⟨ys7, s7, hD7, dp7⟩
        rw [show xs.length = ts.length from dp_len h4, List.take_length] at dp7
        refine ⟨D2, ys7, rfl, .inl ⟨SqL.of hD7, fun l3 nl3 => ⟨(by show 2 ≤ sizeLine; decide), fun u2 nu => ?_⟩⟩⟩
        have s8 := same_upd (o := .tup ys7) nl3
        have s9 := same_upd (o := .tup [.ref l2, .ref l3]) nu
        have s79 := s8.trans s9
        have sAll : Same H _ := s06.trans (s7.trans s79)
        have tok : TOk ks := fun x hx => TOk.of N x (sub x hx)
        have N' : NetOk (ps.filter fun x => decide (x ≠ a)) (without a ts) := after_ok (d := .go a) N True.intro isok ⟨rfl, rfl⟩
        refine ⟨p, .ref u2, ps.filter (fun x => decide (x ≠ a)), ps, without a ts, ts, ks, rfl, KA.same sAll, net_to (SqT.of upd_same) (SqT.of (s79 _ _ (s7 _ _ (by rw [← eys]; exact hl2)))) (seqT_same s9 (SqT.of upd_same)) (DpAll_same s79 dp7), TOk.of N', tok, N'.tfew, Nat.le_trans few0 N.tfew, fun H' r ks' b k => ?_⟩
        exact told.good isok ((But.of sAll).trans b) k ⟨rfl, rfl⟩ (show ¬ ("go" : Str) = "far" by decide +kernel)
end
end L2.T
set_option maxHeartbeats 2000000
namespace L2.T
open PySem PySem.Spec PyProof.Rows
open PySem.W (dataLt dataLe alike AllAlike Sortable EachIs)
open Thin
def spLay (K : PySem.W.Frag) (C : Addr) (er : Str → Addr) : Sp := fun vs H Q E => ∃ (p : Addr) (a b : Str) (n : Int) (ps : List Str) (ts ks : List Tie), vs = [.ref p, .str a, .str b, .int n] ∧ KeepAt K C H p ps ts ks ∧ NetOk ps ts ∧ (1 ≤ n ∧ n ≤ 9) ∧ Told K C er H p ps ts ks (.lay a b n) Q E
def spTake (K : PySem.W.Frag) (C : Addr) (er : Str → Addr) : Sp := fun vs H Q E => ∃ (p : Addr) (a b : Str) (ps : List Str) (ts ks : List Tie), vs = [.ref p, .str a, .str b] ∧ KeepAt K C H p ps ts ks ∧ NetOk ps ts ∧ Told K C er H p ps ts ks (.take a b) Q E
def spKFar (K : PySem.W.Frag) (C : Addr) (er : Str → Addr) : Sp := fun vs H Q E => ∃ (p : Addr) (a b : Str) (ps : List Str) (ts ks : List Tie), vs = [.ref p, .str a, .str b] ∧ KeepAt K C H p ps ts ks ∧ NetOk ps ts ∧ Told K C er H p ps ts ks (.far a b) Q E
def spNet (K : PySem.W.Frag) (C : Addr) : Sp := fun vs H Q _ => ∃ (p : Addr) (ps : List Str) (ts ks : List Tie), vs = [.ref p] ∧ KeepAt K C H p ps ts ks ∧ ∀ v : V, Dp K H v (netD ps ts) → Q v H
def spThinNet (K : PySem.W.Frag) (C : Addr) : Sp := fun vs H Q _ => ∃ (p : Addr) (ps : List Str) (ts ks : List Tie), vs = [.ref p] ∧ KeepAt K C H p ps ts ks ∧ ∀ v : V, Dp K H v (netD ps ks) → Q v H
theorem two_in {ps : List Str} {a b : Str} (h : ∀ x ∈ [a, b], x ∈ ps) : a ∈ ps ∧ b ∈ ps := ⟨h a List.mem_cons_self, h b (List.mem_cons_of_mem _ List.mem_cons_self)⟩
theorem two_out {ps : List Str} {a b : Str} (h : ¬ ∀ x ∈ [a, b], x ∈ ps) : ¬ (a ∈ ps ∧ b ∈ ps) := fun z => h fun x hx => by
  rcases List.mem_cons.mp hx with e | e
  · rw [e]; exact z.1
  · rw [List.mem_singleton.mp e]; exact z.2
section
variable {P : Program} {w : World} {K : PySem.W.Frag} {mg : Str → Option Value} {base : Heap} {er : Str → Addr}
theorem scNe : FnScope ["self"] ["self"] (defScope (sKeep 8)) := ⟨rfl, rfl, rfl, by decide +kernel, rfl, by decide +kernel, by decide +kernel⟩
theorem ok_net {f C : Addr} {fd : FuncData} (F : Fun K "net" "Keeper.net" (sKeep 8) f fd) (T : KTxt K mg C) : FnOk P w K mg base CX0 1 f fd ["self"] (spNet K C) := by
  refine F.ok scNe (fun vs H Q E h => ?_) (fun cdv A outer s H vs Q E hr h => ?_)
  · obtain ⟨p, ps, ts, ks, rfl, _⟩ := h
    rfl
  · obtain ⟨p, ps, ts, ks, rfl, ⟨dx, t, v, u, hp, ht, hv, hu, sub, few0⟩, k⟩ := h
    exact ⟨_, pss_one (ps_ret (pe_fld (pv 0) rfl)), _, rfl, p, C, dx, _, _, rfl, hp, T.cl, T.nN, flds_n _ _ _, k v hv⟩
theorem scTt : FnScope ["self"] ["self"] (defScope (sKeep 9)) := ⟨rfl, rfl, rfl, by decide +kernel, rfl, by decide +kernel, by decide +kernel⟩
theorem ok_thinNet {f C : Addr} {fd : FuncData} (F : Fun K "thin" "Keeper.thin" (sKeep 9) f fd) (T : KTxt K mg C) : FnOk P w K mg base CX0 1 f fd ["self"] (spThinNet K C) := by
  refine F.ok scTt (fun vs H Q E h => ?_) (fun cdv A outer s H vs Q E hr h => ?_)
  · obtain ⟨p, ps, ts, ks, rfl, _⟩ := h
    rfl
  · obtain ⟨p, ps, ts, ks, rfl, ⟨dx, t, v, u, hp, ht, hv, hu, sub, few0⟩, k⟩ := h
    exact ⟨_, pss_one (ps_ret (pe_fld (pv 0) rfl)), _, rfl, p, C, dx, _, _, rfl, hp, T.cl, T.nH, flds_h _ _ _, k u hu⟩
theorem scRs : FnScope nRest ["self", "a", "b"] (defScope (sKeep 5)) := ⟨rfl, rfl, rfl, by decide +kernel, rfl, by decide +kernel, by decide +kernel⟩
theorem ok_rest {f C : Addr} {fd : FuncData} (F : Fun K "rest_of" "Keeper.rest_of" (sKeep 5) f fd) (T : KTxt K mg C) (B : Blt mg) : FnOk P w K mg base CX0 1 f fd ["self", "a", "b"] (spRest K C) := by
  refine F.ok scRs (fun vs H Q E h => ?_) (fun cdv A outer s H vs Q E hr h => ?_)
  · obtain ⟨p, a, b, ps, ts, ks, rfl, _⟩ := h
    rfl
  · obtain ⟨p, a, b, ps, ts, ks, rfl, KA, N, pa, pb, k⟩ := h
    have hu64 := hr.units
    refine ⟨_, pss_cons (ps_set (i := 3) scRs.nd rfl (Or.inr rfl) (pe_tup (pa_cons (pe_callB (call_minS rfl) (by rfl) B.min (by decide +kernel) (pa_cons (pv 1) (pa_cons (pv 2) pa_nil)))
        (pa_cons (pe_callB (call_maxS rfl) (by rfl) B.max (by decide +kernel) (pa_cons (pv 1) (pa_cons (pv 2) pa_nil))) pa_nil))))
      (pss_one (ps_ret (pe_lc (own := [("tie", 4)]) (g := gName 4) (by rfl) scRs.nd (pi_tup (pe_ix ix_tup (pe_fld (pv 0) rfl) pe_int (fun _ _ => rfl))) (blkOk_by (N := nRest) (sc := defScope (sKeep 5)) (by decide +kernel)) (fun _ _ _ _ _ => pg_name (i := 4) scRs.nd rfl (Or.inl rfl))
          (fun _ _ _ _ _ => pts_one (pt_cmpR (r := rNeD K) (op_neD hu64) (pe_slice (r := rSlT K) sl_tup (pv 4) po_none (po_some pe_int)) (pv 3) (nomark _))) (fun _ _ _ _ _ => pv 4)))), ?_⟩
    obtain ⟨dx, t, v, u, hp, ht, hv, hu, sub, few0⟩ := id KA
    obtain ⟨n, pl, ta, xs, rfl, h1, h2, h3, h4⟩ := net_of hv
    refine ⟨_, rfl, _, rfl, _, _, rfl, _, rfl, _, rfl, _, _, rfl, (by show 2 ≤ sizeLine; decide), fun q nq => ?_⟩
    have s1 : Same H (upd H q (.tup [.str (mnS a b), .str (mxS a b)])) := same_upd nq
    have hq : (upd H q (.tup [.str (mnS a b), .str (mxS a b)])) q = some (.tup [.str (mnS a b), .str (mxS a b)]) := upd_same
    generalize upd H q (.tup [.str (mnS a b), .str (mxS a b)]) = H1 at s1 hq
    have pm := pr_mem pa pb
    refine ⟨_, rfl, p, C, dx, _, _, rfl, s1 _ _ hp, T.cl, T.nN, flds_n _ _ _, n, _, _, _, rfl, rfl, seqT_same s1 h1, rfl, ta, rfl, ⟨_, seqT_same s1 h3⟩, fun D nD => ?_⟩
    refine lc_tup (K := K) (a := ta) (xs := xs) (PickF K H1 D tieD ts (fun x => decide (pk x ≠ pr a b))) (pickF_start nD) (fun i H7 _ ⟨_, s7, _⟩ => seqT_same (s1.trans s7) h3) ?_ ?_
    · intro i y H7 hi Pk
      obtain ⟨_, s7, _⟩ := id Pk
      obtain ⟨x, hx, dv⟩ := dp_at (DpAll_same (s1.trans s7) h4) hi
      have hil := (List.getElem?_eq_some_iff.mp hx).1
      have f60 := N.tfew
      have px := TOk.of N x (List.mem_of_getElem? hx)
      obtain ⟨c, rfl, hc⟩ := tie_of dv
      refine ⟨rfl, _, rfl, _, rfl, c, _, rfl, hc, (by show ¬ (HT.sIx 3 0 none = 0 ∧ HT.sIx 3 3 (some 2) = 3); decide), fun q2 nq2 => ?_⟩
      have s8 : Same H7 (upd H7 q2 (.tup (cutV [.str x.1, .str x.2.1, .int x.2.2] none (some 2)))) := same_upd nq2
      refine ⟨_, rfl, prD (pk x), prD (pr a b), .tup (SqT.of upd_same) (.cons (.str _) (.cons (.str _) .nil)), .tup (seqT_same (s7.trans s8) (SqT.of hq)) (.cons (.str _) (.cons (.str _) .nil)), pr_shaped px.1 px.2, pr_shaped pm.1 pm.2, _, rfl, ?_⟩
      refine ite2 (fun z => ?_) (fun z => ?_)
      · rw [eqv_pr] at z
        have ne : pk x ≠ pr a b := fun e => by rw [decide_eq_true e] at z; cases z
        exact ⟨_, rfl, pickF_on nD Pk s8 hx (decide_eq_true ne) (Dp_same s8 dv) noL_tie (by omega)⟩
      · have ex : pk x = pr a b := by
          by_cases e : pk x = pr a b
          · exact e
          · exact absurd (by rw [eqv_pr, decide_eq_false e]; rfl) z
        exact pickF_no Pk s8 hx (decide_eq_false fun z => z ex)
    · rintro H7 ⟨ys7, s7, hD7, dp7⟩
      rw [show xs.length = ts.length from dp_len h4, List.take_length] at dp7
      exact k H7 D ys7 (s1.trans s7) hD7 dp7
end
end L2.T
set_option maxHeartbeats 2000000
namespace L2.T
open PySem PySem.Spec PyProof.Rows
open PySem.W (dataLt dataLe alike AllAlike Sortable EachIs)
open Thin
abbrev nLay : List Str := ["self", "a", "b", "length", "rest"]
abbrev nTake : List Str := ["self", "a", "b", "places", "ties", "rest"]
section
variable {P : Program} {w : World} {K : PySem.W.Frag} {mg : Str → Option Value} {base : Heap} {er : Str → Addr}
theorem scLa : FnScope nLay ["self", "a", "b", "length"] (defScope (sKeep 6)) := ⟨rfl, rfl, rfl, by decide +kernel, rfl, by decide +kernel, by decide +kernel⟩
theorem ok_lay {f C fT fA fR : Addr} {fd fdT fdA fdR : FuncData} {m60 : Tok} (F : Fun K "lay" "Keeper.lay" (sKeep 6) f fd) (T : KTxt K mg C) (R : Errs K mg er) (M : Me K C "turn" "Keeper.turn" (sKeep 1) fT fdT) (bT : Binds K fdT ["self", "net"] [])
    (GT : FnOk P w K mg base CX0 6 fT fdT ["self", "net"] (spTurn K C)) (MA : Me K C "ask_places" "Keeper.ask_places" (sKeep 2) fA fdA) (bA : Binds K fdA ["self", "names"] []) (GA : FnOk P w K mg base (L2.CX P w) 1 fA fdA ["self", "names"] (spAsk K C er))
    (MR : Me K C "rest_of" "Keeper.rest_of" (sKeep 5) fR fdR) (bR : Binds K fdR ["self", "a", "b"] []) (mt : mg "MOST_TIES" = some (.int 60 m60)) (B : Blt mg) : FnOk P w K mg base (L2.CX P w) 7 f fd ["self", "a", "b", "length"] (spLay K C er) := by
  have GR : FnOk P w K mg base CX0 1 fR fdR ["self", "a", "b"] (spRest K C) := ok_rest MR.F T B
  refine F.okX scLa (fun vs H Q E h => ?_) (fun cdv A outer s H vs Q E hr h => ?_)
  · obtain ⟨p, a, b, n, ps, ts, ks, rfl, _⟩ := h
    rfl
  · obtain ⟨p, a, b, n, ps, ts, ks, rfl, KA, N, hn, told⟩ := h
    have hr1 : Room 1 _ := hr.mono (by decide)
    refine ⟨_, pss_cons (ps_expr (pe_meth (pv 0) T.cl MA.m GA hr1 bA .nil (passes_call (takes_of rfl rfl rfl rfl) (fun _ _ _ _ h => h)) (pa_cons (pe_lst (pa_cons (pv 1) (pa_cons (pv 2) pa_nil))) pa_nil)))
      (pss_cons (ps_if (pt_cmpR op_eq (pv 1) (pv 2) (nomark _)) (pss_one (ps_raise rfl (takes_of rfl rfl rfl rfl) (SkE.pmk_own1 PySem.F.excBase_ValueError R.ti.q R.ti.g R.ti.kp (raises_own R.ti.sub R.ti.ty) (by rfl) (pv 1)))) pss_nil)
      (pss_cons (ps_set (i := 4) scLa.nd rfl (Or.inl rfl) (pe_meth (pv 0) T.cl MR.m GR hr1 bR .nil pass0 (pa_cons (pv 1) (pa_cons (pv 2) pa_nil))))
      (pss_cons (ps_if (pt_cmpR op_eq (pe_callB call_len_seq (by rfl) B.len PySem.boot_len (pa_cons (pv 4) pa_nil)) (pe_glob (v := .int 60) (by rfl) mt ⟨_, rfl⟩) (nomark _))
        (pss_one (ps_raise rfl (takes_of rfl rfl rfl rfl) (SkE.pmk_own1 PySem.F.excBase_ValueError R.mn.q R.mn.g R.mn.kp (raises_own R.mn.sub R.mn.ty) (by rfl) pe_str))) pss_nil)
      (pss_one (ps_ret (pe_meth (pv 0) T.cl M.m GT hr bT .nil pass0 (pa_cons (pe_tup (pa_cons (pe_ix ix_tup (pe_fld (pv 0) rfl) pe_int (fun _ _ => rfl)) (pa_cons (pe_callTy call_tuple_of (by rfl) B.tuple (by decide +kernel) (pa_cons
        (pe_callB (cr_sortD hr.units) (by rfl) B.sorted (by decide +kernel) (pa_cons (pe_op op_cat (pv 4) (pe_lst (pa_cons (pe_tup (pa_cons (pe_callB (call_minS rfl) (by rfl) B.min (by decide +kernel) (pa_cons (pv 1) (pa_cons (pv 2) pa_nil)))
          (pa_cons (pe_callB (call_maxS rfl) (by rfl) B.max (by decide +kernel) (pa_cons (pv 1) (pa_cons (pv 2) pa_nil))) (pa_cons (pv 3) pa_nil)))) pa_nil))) pa_nil)) pa_nil)) pa_nil))) pa_nil))))))), ?_⟩
    obtain ⟨dx, t, v, u, hp, ht, hv, hu, sub, few0⟩ := id KA
    refine ⟨_, rfl, p, dx, _, rfl, hp, flds_no _ _ _ (by decide +kernel) (by decide +kernel) (by decide +kernel), _, rfl, _, rfl, (by show 2 ≤ sizeLine; decide), fun l nl => ?_⟩
    have s1 : Same H (upd H l (.lst [.str a, .str b])) := same_upd nl
    refine ⟨p, l, ps, [a, b], ts, ks, rfl, KA.same s1, SqL.of upd_same, fun all => ?_, fun nall => told.bad (e := "place") ?_ no_place s1⟩
    rotate_left
    · simp only [due]
      rw [if_neg (two_out nall)]
    have hin := two_in all
    generalize upd H l (.lst [.str a, .str b]) = H1 at s1
    refine ⟨_, rfl, _, rfl, rfl, _, rfl, ?_⟩
    refine ite2 (fun c => ?_) (fun c => ?_)
    · have e : a = b := by
        have z := of_decide_eq_true c
        injection z with z
      refine ⟨_, rfl, told.bad (e := "tie") ?_ no_tie s1⟩
      simp only [due]
      rw [if_pos hin, if_pos e]
    · have ne : ¬ a = b := fun z => c (decide_eq_true (by rw [z]))
      refine ⟨_, rfl, p, dx, _, rfl, s1 _ _ hp, flds_no _ _ _ (by decide +kernel) (by decide +kernel) (by decide +kernel), _, rfl, _, rfl, p, a, b, ps, ts, ks, rfl, KA.same s1, N, N.inPool _ hin.1, N.inPool _ hin.2, fun H2 l2 ys s2 hl2 dp2 => ?_⟩
      have ly : ys.length = (Thin.rest (pr a b) ts).length := dp_len dp2
      have s12 := s1.trans s2
      refine ⟨_, rfl, l2, ys, rfl, .inl (SqL.of hl2), rfl, _, rfl, ?_⟩
      refine ite2 (fun c2 => ?_) (fun c2 => ?_)
      · have e60 : (Thin.rest (pr a b) ts).length = 60 := by
          have z := of_decide_eq_true c2
          injection z with z
          omega
        refine told.bad (e := "many") ?_ no_many s12
        simp only [due]
        have f60 := N.tfew
        have nj : joined (pr a b) ts = false := by
          cases j : joined (pr a b) ts with
          | false => rfl
          | true => have := rest_len N.pnd j; omega
        have e2 : ts.length = 60 := by rw [← e60, rest_none nj]
        rw [if_pos hin, if_neg ne, if_pos ⟨nj, e2⟩]
      · have n60 : ¬ (Thin.rest (pr a b) ts).length = 60 := fun z => c2 (decide_eq_true (by rw [ly, z]; rfl))
        have isok : due ps ts (.lay a b n) = "ok" := by
          simp only [due]
          rw [if_pos hin, if_neg ne, if_neg]
          rintro ⟨j, e⟩
          exact n60 (by rw [rest_none j]; exact e)
        obtain ⟨nn, pl, ta, xs, rfl, h1, h2, h3, h4⟩ := net_of hv
        refine ⟨_, rfl, p, dx, _, rfl, s12 _ _ hp, flds_no _ _ _ (by decide +kernel) (by decide +kernel) (by decide +kernel), ?_⟩
        refine ⟨_, rfl, p, C, dx, _, _, rfl, s12 _ _ hp, T.cl, T.nN, flds_n _ _ _, nn, _, _, _, rfl, rfl, seqT_same s12 h1, rfl, ?_⟩
        refine ⟨_, rfl, _, rfl, _, rfl, _, _, rfl, _, rfl, _, rfl, _, _, rfl, _, rfl, (by show 3 ≤ sizeLine; decide), fun q nq => ⟨(by show 1 ≤ sizeLine; decide), fun q2 nq2 => ?_⟩⟩
        have s3 := same_upd (o := .tup [.str (mnS a b), .str (mxS a b), .int n]) nq
        have s4 := same_upd (o := .lst [.ref q]) nq2
        have s34 := s3.trans s4
        have rl : (Thin.rest (pr a b) ts).length ≤ 60 := Nat.le_trans (rest_sub _ _).length_le N.tfew
        refine ⟨l2, q2, ys, [.ref q], rfl, rfl, s34 _ _ hl2, upd_same, (by have := small1000 (n := 61) (by decide); show ys.length + 1 ≤ sizeLine; omega), fun q3 nq3 => ?_⟩
        have s5 := same_upd (o := .lst (ys ++ [.ref q])) nq3
        have s35 := s34.trans s5
        have dnew : Dp K _ (.ref q) (tieD (mnS a b, mxS a b, n)) := tie_to (seqT_same (s4.trans s5) (SqT.of upd_same))
        have dall : DpAll K _ (ys ++ [.ref q]) ((Thin.rest (pr a b) ts ++ [(mnS a b, mxS a b, n)]).map tieD) := dp_snoc (DpAll_same s35 dp2) dnew
        refine ⟨Tie, q3, ys ++ [V.ref q], Thin.rest (pr a b) ts ++ [(mnS a b, mxS a b, n)], tieD, rfl, .inl (SqL.of upd_same), dall, tie_alike _, tie_sortable _, fun b _ => tie_depth b, fun q4 zs cs nq4 pm up dd => ?_⟩
        have s6 := same_upd (o := .lst zs) nq4
        refine ⟨q4, zs, rfl, .inl ⟨SqL.of upd_same, fun l3 nl3 => ⟨(by show 2 ≤ sizeLine; decide), fun u2 nu => ?_⟩⟩⟩
        have s7 := same_upd (o := .tup zs) nl3
        have s8 := same_upd (o := .tup [.ref pl, .ref l3]) nu
        have s78 := s7.trans s8
        have sAll : Same H _ := s12.trans (s35.trans (s6.trans s78))
        have tok : TOk ks := fun x hx => TOk.of N x (sub x hx)
        have AF : After ps ts (.lay a b n) ps cs := ⟨rfl, pm, up⟩
        have N' : NetOk ps cs := after_ok (d := .lay a b n) N hn isok AF
        refine ⟨p, .ref u2, ps, ps, cs, ts, ks, rfl, KA.same sAll, net_to (SqT.of upd_same) (seqT_same sAll h2) (seqT_same s8 (SqT.of upd_same)) (DpAll_same (s6.trans s78) dd), TOk.of N', tok, N'.tfew, Nat.le_trans few0 N.tfew, fun H' r ks' bb k => ?_⟩
        exact told.good isok ((But.of sAll).trans bb) k AF (show ¬ ("lay" : Str) = "far" by decide +kernel)
theorem scTk : FnScope nTake ["self", "a", "b"] (defScope (sKeep 7)) := ⟨rfl, rfl, rfl, by decide +kernel, rfl, by decide +kernel, by decide +kernel⟩
theorem ok_take {f C fT fA fR : Addr} {fd fdT fdA fdR : FuncData} (F : Fun K "take" "Keeper.take" (sKeep 7) f fd) (T : KTxt K mg C) (R : Errs K mg er) (M : Me K C "turn" "Keeper.turn" (sKeep 1) fT fdT) (bT : Binds K fdT ["self", "net"] [])
    (GT : FnOk P w K mg base CX0 6 fT fdT ["self", "net"] (spTurn K C)) (MA : Me K C "ask_places" "Keeper.ask_places" (sKeep 2) fA fdA) (bA : Binds K fdA ["self", "names"] []) (GA : FnOk P w K mg base (L2.CX P w) 1 fA fdA ["self", "names"] (spAsk K C er))
    (MR : Me K C "rest_of" "Keeper.rest_of" (sKeep 5) fR fdR) (bR : Binds K fdR ["self", "a", "b"] []) (B : Blt mg) : FnOk P w K mg base (L2.CX P w) 7 f fd ["self", "a", "b"] (spTake K C er) := by
  have GR : FnOk P w K mg base CX0 1 fR fdR ["self", "a", "b"] (spRest K C) := ok_rest MR.F T B
  refine F.okX scTk (fun vs H Q E h => ?_) (fun cdv A outer s H vs Q E hr h => ?_)
  · obtain ⟨p, a, b, ps, ts, ks, rfl, _⟩ := h
    rfl
  · obtain ⟨p, a, b, ps, ts, ks, rfl, KA, N, told⟩ := h
    have hr1 : Room 1 _ := hr.mono (by decide)
    refine ⟨_, pss_cons (ps_expr (pe_meth (pv 0) T.cl MA.m GA hr1 bA .nil (passes_call (takes_of rfl rfl rfl rfl) (fun _ _ _ _ h => h)) (pa_cons (pe_lst (pa_cons (pv 1) (pa_cons (pv 2) pa_nil))) pa_nil)))
      (pss_cons (ps_asg (pe_fld (pv 0) rfl) (pg_tup (by rfl) (pgs_cons (pg_name (i := 3) scTk.nd rfl (Or.inl rfl)) (pgs_cons (pg_name (i := 4) scTk.nd rfl (Or.inl rfl)) pgs_nil))))
      (pss_cons (ps_set (i := 5) scTk.nd rfl (Or.inl rfl) (pe_meth (pv 0) T.cl MR.m GR hr1 bR .nil pass0 (pa_cons (pv 1) (pa_cons (pv 2) pa_nil))))
      (pss_cons (ps_if (pt_cmpR op_eq (pe_callB call_len_seq (by rfl) B.len PySem.boot_len (pa_cons (pv 5) pa_nil)) (pe_callB call_len_seq (by rfl) B.len PySem.boot_len (pa_cons (pv 4) pa_nil)) (nomark _))
        (pss_one (ps_raise rfl (takes_of rfl rfl rfl rfl) (SkE.pmk_own1 PySem.F.excBase_ValueError R.ti.q R.ti.g R.ti.kp (raises_own R.ti.sub R.ti.ty) (by rfl) (pv 1)))) pss_nil)
      (pss_one (ps_ret (pe_meth (pv 0) T.cl M.m GT hr bT .nil pass0 (pa_cons (pe_tup (pa_cons (pv 3) (pa_cons (pe_callTy call_tuple_of (by rfl) B.tuple (by decide +kernel) (pa_cons (pv 5) pa_nil)) pa_nil))) pa_nil))))))), ?_⟩
    obtain ⟨dx, t, v, u, hp, ht, hv, hu, sub, few0⟩ := id KA
    refine ⟨_, rfl, p, dx, _, rfl, hp, flds_no _ _ _ (by decide +kernel) (by decide +kernel) (by decide +kernel), _, rfl, _, rfl, (by show 2 ≤ sizeLine; decide), fun l nl => ?_⟩
    have s1 : Same H (upd H l (.lst [.str a, .str b])) := same_upd nl
    refine ⟨p, l, ps, [a, b], ts, ks, rfl, KA.same s1, SqL.of upd_same, fun all => ?_, fun nall => told.bad (e := "place") ?_ no_place s1⟩
    rotate_left
    · simp only [due]
      rw [if_neg (two_out nall)]
    have hin := two_in all
    generalize upd H l (.lst [.str a, .str b]) = H1 at s1
    obtain ⟨nn, pl, ta, xs, rfl, h1, h2, h3, h4⟩ := net_of hv
    refine ⟨_, rfl, p, C, dx, _, _, rfl, s1 _ _ hp, T.cl, T.nN, flds_n _ _ _, nn, _, rfl, seqT_same s1 h1, rfl, _, _, rfl, _, _, rfl, rfl, ?_⟩
    refine ⟨_, rfl, p, dx, _, rfl, s1 _ _ hp, flds_no _ _ _ (by decide +kernel) (by decide +kernel) (by decide +kernel), _, rfl, _, rfl, p, a, b, ps, ts, ks, rfl, KA.same s1, N, N.inPool _ hin.1, N.inPool _ hin.2, fun H2 l2 ys s2 hl2 dp2 => ?_⟩
    have ly : ys.length = (Thin.rest (pr a b) ts).length := dp_len dp2
    have lx : xs.length = ts.length := dp_len h4
    have s12 := s1.trans s2
    refine ⟨_, rfl, l2, ys, rfl, .inl (SqL.of hl2), _, rfl, ta, xs, rfl, .inr (seqT_same s12 h3), rfl, _, rfl, ?_⟩
    refine ite2 (fun c2 => ?_) (fun c2 => ?_)
    · have e : (Thin.rest (pr a b) ts).length = ts.length := by
        have z := of_decide_eq_true c2
        injection z with z
        omega
      refine ⟨_, rfl, told.bad (e := "tie") ?_ no_tie s12⟩
      simp only [due]
      have nj : ¬ joined (pr a b) ts = true := fun j => by have := rest_len N.pnd j; omega
      rw [if_pos hin, if_neg nj]
    · have isok : due ps ts (.take a b) = "ok" := by
        simp only [due]
        rw [if_pos hin]
        cases j : joined (pr a b) ts with
        | true => rw [if_pos rfl]
        | false => exact absurd (decide_eq_true (by rw [ly, lx, rest_none j])) c2
      refine ⟨_, rfl, p, dx, _, rfl, s12 _ _ hp, flds_no _ _ _ (by decide +kernel) (by decide +kernel) (by decide +kernel), ?_⟩
      refine ⟨_, rfl, _, rfl, l2, ys, rfl, .inl ⟨SqL.of hl2, fun l3 nl3 => ⟨(by show 2 ≤ sizeLine; decide), fun u2 nu => ?_⟩⟩⟩
      have s7 := same_upd (o := .tup ys) nl3
      have s8 := same_upd (o := .tup [.ref pl, .ref l3]) nu
      have s78 := s7.trans s8
      have sAll : Same H _ := s12.trans s78
      have tok : TOk ks := fun x hx => TOk.of N x (sub x hx)
      have AF : After ps ts (.take a b) ps (Thin.rest (pr a b) ts) := ⟨rfl, rfl⟩
      have N' : NetOk ps (Thin.rest (pr a b) ts) := after_ok (d := .take a b) N True.intro isok AF
      refine ⟨p, .ref u2, ps, ps, _, ts, ks, rfl, KA.same sAll, net_to (SqT.of upd_same) (seqT_same sAll h2) (seqT_same s8 (SqT.of upd_same)) (DpAll_same s78 dp2), TOk.of N', tok, N'.tfew, Nat.le_trans few0 N.tfew, fun H' r ks' bb k => ?_⟩
      exact told.good isok ((But.of sAll).trans bb) k AF (show ¬ ("take" : Str) = "far" by decide +kernel)
theorem scKf : FnScope ["self", "a", "b"] ["self", "a", "b"] (defScope (sKeep 10)) := ⟨rfl, rfl, rfl, by decide +kernel, rfl, by decide +kernel, by decide +kernel⟩
theorem ok_kfar {f C fF fA : Addr} {fd fdF fdA : FuncData} (F : Fun K "far" "Keeper.far" (sKeep 10) f fd) (T : KTxt K mg C) (W : At K mg "far_ways" "far" sFar fF fdF) (bF : Binds K fdF ["net", "a", "b"] []) (GF : FnOk P w K mg base CX0 3 fF fdF ["net", "a", "b"] (spFar K))
    (MA : Me K C "ask_places" "Keeper.ask_places" (sKeep 2) fA fdA) (bA : Binds K fdA ["self", "names"] []) (GA : FnOk P w K mg base (L2.CX P w) 1 fA fdA ["self", "names"] (spAsk K C er)) : FnOk P w K mg base (L2.CX P w) 4 f fd ["self", "a", "b"] (spKFar K C er) := by
  refine F.okX scKf (fun vs H Q E h => ?_) (fun cdv A outer s H vs Q E hr h => ?_)
  · obtain ⟨p, a, b, ps, ts, ks, rfl, _⟩ := h
    rfl
  · obtain ⟨p, a, b, ps, ts, ks, rfl, KA, N, told⟩ := h
    have hr1 : Room 1 _ := hr.mono (by decide)
    refine ⟨_, pss_cons (ps_expr (pe_meth (pv 0) T.cl MA.m GA hr1 bA .nil (passes_call (takes_of rfl rfl rfl rfl) (fun _ _ _ _ h => h)) (pa_cons (pe_lst (pa_cons (pv 1) (pa_cons (pv 2) pa_nil))) pa_nil)))
      (pss_one (ps_ret (pe_call GF hr (by rfl) W.g W.F.kp bF .nil pass0 (pa_cons (pe_fld (pv 0) rfl) (pa_cons (pv 1) (pa_cons (pv 2) pa_nil)))))), ?_⟩
    obtain ⟨dx, t, v, u, hp, ht, hv, hu, sub, few0⟩ := id KA
    refine ⟨_, rfl, p, dx, _, rfl, hp, flds_no _ _ _ (by decide +kernel) (by decide +kernel) (by decide +kernel), _, rfl, _, rfl, (by show 2 ≤ sizeLine; decide), fun l nl => ?_⟩
    have s1 : Same H (upd H l (.lst [.str a, .str b])) := same_upd nl
    refine ⟨p, l, ps, [a, b], ts, ks, rfl, KA.same s1, SqL.of upd_same, fun all => ?_, fun nall => told.bad (e := "place") ?_ no_place s1⟩
    rotate_left
    · simp only [due]
      rw [if_neg (two_out nall)]
    have hin := two_in all
    generalize upd H l (.lst [.str a, .str b]) = H1 at s1
    have isok : due ps ts (.far a b) = "ok" := by
      simp only [due]
      rw [if_pos hin]
    refine ⟨_, rfl, p, C, dx, _, _, rfl, s1 _ _ hp, T.cl, T.nH, flds_h _ _ _, _, rfl, _, rfl, u, a, b, ps, ks, rfl, Dp_same s1 hu, Nat.le_trans few0 N.tfew, fun H2 r s2 _ => ?_⟩
    have s12 := s1.trans s2
    exact told.1 isok H2 r ps ts ks (But.of s12) (KA.same s12) ⟨rfl, rfl⟩ fun _ => rfl
end
end L2.T
set_option maxHeartbeats 2000000
/-! The lines of a net, and their words. -/
namespace L2.T
open PySem PySem.Spec PyProof.Rows
open PySem.W (dataLt dataLe alike AllAlike Sortable EachIs)
open Thin
def digS (n : Int) : Str := if n = 1 then "1" else if n = 2 then "2" else if n = 3 then "3" else if n = 4 then "4" else "5"
theorem dig_of {n : Int} (h1 : 1 ≤ n) (h2 : n ≤ 5) : n = 1 ∨ n = 2 ∨ n = 3 ∨ n = 4 ∨ n = 5 := by omega
theorem dig_str {n : Int} (h1 : 1 ≤ n) (h2 : n ≤ 5) : ((toString n : String) : Str) = digS n := by
  rcases dig_of h1 h2 with rfl | rfl | rfl | rfl | rfl
  · rfl
  · rfl
  · rfl
  · rfl
  · rfl
def placeLine (p : Str) : Str := "place " ++ p
def tieLine (t : Tie) : Str := "tie " ++ t.1 ++ " " ++ t.2.1 ++ " " ++ digS t.2.2
theorem app_assoc (a b c : Str) : a ++ b ++ c = a ++ (b ++ c) := by
  show (⟨(a.cps ++ b.cps) ++ c.cps⟩ : Str) = ⟨a.cps ++ (b.cps ++ c.cps)⟩
  rw [Array.append_assoc]
theorem pool_gap : ∀ p ∈ pool, 32 ∉ p.cps.toList := by decide +kernel
theorem dig_facts {n : Int} (h1 : 1 ≤ n) (h2 : n ≤ 5) : 32 ∉ (digS n).cps.toList ∧ intText? (digS n) = some n ∧ (digS n).length = 1 ∧ (∀ c ∈ (digS n).cps.toList, 48 < c ∧ c ≤ 57) := by
  rcases dig_of h1 h2 with rfl | rfl | rfl | rfl | rfl <;> decide +kernel
theorem split_place {p : Str} (h : p ∈ pool) : Txt.split (placeLine p) " " = (["place", p] : List Str) := by
  have e : placeLine p = Txt.join " " (["place", p] : List Str) := by
    rw [TL.join_eq]
    show ("place " : Str) ++ p = "place" ++ " " ++ p
    rw [show ("place" : Str) ++ " " = "place " by decide +kernel]
  rw [e]
  refine TL.split_join (s := 32) (S := []) (by decide +kernel) (by decide +kernel) (by simp) fun q hq => ?_
  rcases List.mem_cons.mp hq with z | z
  · rw [z]; decide +kernel
  · rw [List.mem_singleton.mp z]; exact pool_gap p h
theorem split_tie {t : Tie} (h1 : t.1 ∈ pool) (h2 : t.2.1 ∈ pool) (h3 : 1 ≤ t.2.2) (h4 : t.2.2 ≤ 5) : Txt.split (tieLine t) " " = (["tie", t.1, t.2.1, digS t.2.2] : List Str) := by
  have e : tieLine t = Txt.join " " (["tie", t.1, t.2.1, digS t.2.2] : List Str) := by
    rw [TL.join_eq]
    show ("tie " : Str) ++ t.1 ++ " " ++ t.2.1 ++ " " ++ digS t.2.2 = "tie" ++ " " ++ (t.1 ++ " " ++ (t.2.1 ++ " " ++ digS t.2.2))
    rw [show ("tie" : Str) ++ " " = "tie " by decide +kernel]
    simp only [app_assoc]
  rw [e]
  refine TL.split_join (s := 32) (S := []) (by decide +kernel) (by decide +kernel) (by simp) fun q hq => ?_
  rcases List.mem_cons.mp hq with z | z
  · rw [z]; decide +kernel
  · rcases List.mem_cons.mp z with z | z
    · rw [z]; exact pool_gap _ h1
    · rcases List.mem_cons.mp z with z | z
      · rw [z]; exact pool_gap _ h2
      · rw [List.mem_singleton.mp z]; exact (dig_facts h3 h4).1
def letters : Str := "abcdefghijklmnopqrstuvwxyz"
def figures : Str := "0123456789"
theorem pool_letters : ∀ p ∈ pool, (∀ c ∈ p.cps.toList, c ∈ letters.cps.toList) ∧ 1 ≤ p.length ∧ p.length ≤ 8 := by decide +kernel
theorem dig_figures {n : Int} (h1 : 1 ≤ n) (h2 : n ≤ 5) : ∀ c ∈ (digS n).cps.toList, c ∈ figures.cps.toList := by
  rcases dig_of h1 h2 with rfl | rfl | rfl | rfl | rfl <;> decide +kernel
theorem lens_short {t : Tie} (h1 : t.1 ∈ pool) (h2 : t.2.1 ∈ pool) (h3 : 1 ≤ t.2.2) (h4 : t.2.2 ≤ 5) : (tieLine t).length ≤ 30 := by
  have l : ∀ a b : Str, (a ++ b).length = a.length + b.length := fun a b => by
    show (a.cps ++ b.cps).size = a.cps.size + b.cps.size
    exact Array.size_append
  unfold tieLine
  rw [l, l, l, l, l]
  have a := (pool_letters _ h1).2.2
  have b := (pool_letters _ h2).2.2
  have c := (dig_facts h3 h4).2.2.1
  have d : ("tie " : Str).length = 4 := by decide +kernel
  have e : (" " : Str).length = 1 := by decide +kernel
  omega
theorem place_short {p : Str} (h : p ∈ pool) : (placeLine p).length ≤ 30 := by
  have l : ∀ a b : Str, (a ++ b).length = a.length + b.length := fun a b => by
    show (a.cps ++ b.cps).size = a.cps.size + b.cps.size
    exact Array.size_append
  unfold placeLine
  rw [l]
  have a := (pool_letters _ h).2.2
  have d : ("place " : Str).length = 6 := by decide +kernel
  omega
end L2.T
set_option maxHeartbeats 2000000
namespace L2.T
open PySem PySem.Spec PyProof.Rows
open PySem.W (dataLt dataLe alike AllAlike Sortable EachIs)
open Thin
/-- a comprehension over a text -/
theorem lc_str {z : Str} {g : TG} {tt : TT} {te : TE} {vs : List Nat} {σ : St} {H1 : Hp} {D : Addr} {Qd : Hp → Prop} (Pv : Nat → Hp → Prop) (h0 : Pv 0 (upd H1 D (.lst [])))
    (hs : ∀ i c H, z.cps[i]? = some c → Pv i H → g (.str ⟨#[c]⟩) (wipe σ vs) H fun σ2 H2 => wipe σ2 vs = wipe σ vs ∧ tt σ2 H2 fun b H3 =>
      if b = true then te σ2 H3 fun y H4 => ∃ acc, H4 D = some (.lst acc) ∧ acc.length < sizeLine ∧ Pv (i + 1) (upd H4 D (.lst (acc ++ [y]))) else Pv (i + 1) H3) (hd : ∀ H, Pv z.cps.size H → Qd H) :
    ∃ W : Nat → Nat → Hp → Prop, (∃ m, W 0 m (upd H1 D (.lst []))) ∧ ∀ i m H, W i m H →
      ((Its z).stop i H ∧ Qd H) ∨ ((Its z).go i H ∧ ∃ Nx : Hp → Prop, (∀ H', Nx H' → ∃ m', m' < m ∧ W (i + 1) m' H') ∧ ∀ x H', (Its z).yld i H x H' → g x (wipe σ vs) H' fun σ2 H2 => wipe σ2 vs = wipe σ vs ∧ tt σ2 H2 fun b H3 =>
        if b = true then te σ2 H3 fun y H4 => ∃ acc, H4 D = some (.lst acc) ∧ acc.length < sizeLine ∧ Nx (upd H4 D (.lst (acc ++ [y]))) else Nx H3) := by
  refine ⟨fun i m H => m = z.cps.size - i ∧ i ≤ z.cps.size ∧ Pv i H, ⟨z.cps.size, rfl, Nat.zero_le _, h0⟩, ?_⟩
  rintro i m H ⟨rfl, hi, p⟩
  by_cases hlt : i < z.cps.size
  · refine .inr ⟨hlt, Pv (i + 1), fun H' p' => ⟨z.cps.size - (i + 1), by omega, rfl, hlt, p'⟩, fun x H' y => ?_⟩
    obtain ⟨e, c, hc, ex⟩ := y
    subst e
    subst ex
    exact hs i c _ hc p
  · have e : i = z.cps.size := by omega
    subst e
    exact .inl ⟨Nat.le_refl _, hd H p⟩
/-- signs that all stand in a text: a list of truths -/
def AllIn (H1 : Hp) (D : Addr) (i : Nat) (H : Hp) : Prop := Same H1 H ∧ H D = some (.lst ((List.replicate i true).map V.bl))
theorem allIn_on {H1 H : Hp} {D : Addr} {i : Nat} (nD : H1 D = none) (P : AllIn H1 D i H) (hi : i < 500) : ∃ acc, H D = some (.lst acc) ∧ acc.length < sizeLine ∧ AllIn H1 D (i + 1) (upd H D (.lst (acc ++ [.bl true]))) := by
  obtain ⟨s1, hD⟩ := P
  refine ⟨_, hD, small1000 (by rw [List.length_map, List.length_replicate]; omega), fun b o e => ?_, ?_⟩
  · rw [upd_ne (ne_of_none e nD)]
    exact s1 _ _ e
  · rw [upd_same, List.replicate_succ', List.map_append]
    rfl
theorem all_true (i : Nat) : (List.replicate i true).all id = true := by
  induction i with
  | zero => rfl
  | succ i ih => rw [List.replicate_succ, List.all_cons, ih]; rfl
def spName : Sp := fun vs H Q _ => ∃ z : Str, vs = [.str z] ∧ z ∈ pool ∧ ∀ H', Same H H' → Q (.bl true) H'
def spLen : Sp := fun vs H Q _ => ∃ n : Int, vs = [.str (digS n)] ∧ 1 ≤ n ∧ n ≤ 5 ∧ ∀ H', Same H H' → Q (.int n) H'
abbrev sName : Stmt := topS 12
abbrev sLen : Stmt := topS 23
/-- the module's constants -/
structure Cst (mg : Str → Option Value) (t1 t2 t3 t4 t5 t6 : Tok) : Prop where
  letters : mg "LETTERS" = some (.str letters t1)
  longest : mg "LONGEST_NAME" = some (.int 8 t2)
  places : mg "MOST_PLACES" = some (.int 24 t3)
  ties : mg "MOST_TIES" = some (.int 60 t4)
  length : mg "MOST_LENGTH" = some (.int 1000000 t5)
  figures : mg "FIGURES" = some (.str figures t6)
section
variable {P : Program} {w : World} {K : PySem.W.Frag} {mg : Str → Option Value} {base : Heap} {t1 t2 t3 t4 t5 t6 : Tok}
theorem scNm : FnScope ["thing", "sign"] ["thing"] (defScope sName) := ⟨rfl, rfl, rfl, by decide +kernel, rfl, by decide +kernel, by decide +kernel⟩
theorem ok_name {f : Addr} {fd : FuncData} (A : At K mg "is_name" "is_name" sName f fd) (c : Cst mg t1 t2 t3 t4 t5 t6) (B : Blt mg) : FnOk P w K mg base CX0 1 f fd ["thing"] spName := by
  refine A.F.ok scNm (fun vs H Q E h => ?_) (fun cdv A outer s H vs Q E hr h => ?_)
  · obtain ⟨z, rfl, _⟩ := h
    rfl
  · obtain ⟨z, rfl, hz, k⟩ := h
    refine ⟨_, pss_cons (ps_if (PW.pt (pw_or (pt_not (pt_val (pe_callB call_isi (by rfl) B.isi PyProof.Rows.boot_isinstance (pa_cons (pv 0) (pa_cons (pe_bltn (v := .ty "str") (by rfl) B.str PyProof.Rows.boot_str rfl) pa_nil)))))
        (pw_or1 (pt_not (pt_chain op_le op_le pe_int (pe_callB call_len_str (by rfl) B.len PySem.boot_len (pa_cons (pv 0) pa_nil)) (pe_glob (v := .int 8) (by rfl) c.longest ⟨_, rfl⟩)))))) (pss_one (ps_ret pe_bl)) pss_nil)
      (pss_one (ps_ret (pe_callB (cr_all rfl) (by rfl) B.all (by decide +kernel) (pa_cons
        (pe_lc (own := [("sign", 1)]) (g := gName 1) (by rfl) scNm.nd (pi_str (pv 0)) (blkOk_by (N := ["thing", "sign"]) (sc := defScope sName) (by decide +kernel)) (fun _ _ _ _ _ => pg_name (i := 1) scNm.nd rfl (Or.inl rfl)) (fun _ _ _ _ _ => pts_nil)
          (fun _ _ _ _ _ => pe_cmpR op_in_sign (pv 1) (pe_glob (v := .str letters) (by rfl) c.letters ⟨_, rfl⟩) (by rfl))) pa_nil)))), ?_⟩
    obtain ⟨pl, l1, l8⟩ := pool_letters z hz
    refine ⟨_, rfl, _, .ty "str", .type "str", .type "str", true, rfl, .ty "str", .base (.str z), kit_ty (by decide +kernel), _, rfl, ?_⟩
    refine iteF ?_
    refine ⟨_, rfl, z, rfl, by have := small1000 (n := 8) (by decide); omega, _, _, rfl, rfl, _, rfl, ?_⟩
    refine ite2 (fun _ => ?_) (fun c => absurd (decide_eq_true (by omega)) c)
    refine ⟨_, _, rfl, rfl, _, rfl, ?_⟩
    refine iteNS (by omega) ?_
    refine ⟨_, rfl, z, rfl, fun D nD => lc_str (AllIn H D) ⟨same_upd nD, upd_same⟩ ?_ ?_⟩
    · intro i x H1 hx Pk
      have hin : x ∈ z.cps.toList := by
        have q : z.cps.toList[i]? = some x := by rw [Array.getElem?_toList]; exact hx
        exact List.mem_of_getElem? q
      have hil : i < z.cps.size := (Array.getElem?_eq_some_iff.mp hx).1
      have hzl : z.cps.size ≤ 8 := l8
      refine ⟨rfl, yes_of (iteT ?_)⟩
      refine ⟨_, rfl, x, letters, rfl, rfl, ?_⟩
      rw [decide_eq_true (pl x hin)]
      exact allIn_on nD Pk (by omega)
    · rintro H1 ⟨s1, hD⟩
      refine ⟨D, _, rfl, SqL.of hD, ?_⟩
      rw [all_true]
      exact k H1 s1
theorem scLw : FnScope ["word", "sign"] ["word"] (defScope sLen) := ⟨rfl, rfl, rfl, by decide +kernel, rfl, by decide +kernel, by decide +kernel⟩
theorem ok_len {f : Addr} {fd : FuncData} (A : At K mg "length_of_word" "length_of_word" sLen f fd) (c : Cst mg t1 t2 t3 t4 t5 t6) (B : Blt mg) : FnOk P w K mg base CX0 1 f fd ["word"] spLen := by
  refine A.F.ok scLw (fun vs H Q E h => ?_) (fun cdv A outer s H vs Q E hr h => ?_)
  · obtain ⟨n, rfl, _⟩ := h
    rfl
  · obtain ⟨n, rfl, n1, n5, k⟩ := h
    refine ⟨_, pss_cons (ps_if (PW.pt (pw_or (pt_not (pt_chain op_le op_le pe_int (pe_callB call_len_str (by rfl) B.len PySem.boot_len (pa_cons (pv 0) pa_nil)) pe_int))
        (pw_or (pt_cmpR op_eq (pe_ix ix_str (pv 0) pe_int (fun _ _ => rfl)) pe_str (nomark _))
        (pw_or1 (pt_not (pt_val (pe_callB (cr_all rfl) (by rfl) B.all (by decide +kernel) (pa_cons
          (pe_lc (own := [("sign", 1)]) (g := gName 1) (by rfl) scLw.nd (pi_str (pv 0)) (blkOk_by (N := ["word", "sign"]) (sc := defScope sLen) (by decide +kernel)) (fun _ _ _ _ _ => pg_name (i := 1) scLw.nd rfl (Or.inl rfl)) (fun _ _ _ _ _ => pts_nil)
            (fun _ _ _ _ _ => pe_cmpR op_in_sign (pv 1) (pe_glob (v := .str figures) (by rfl) c.figures ⟨_, rfl⟩) (by rfl))) pa_nil))))))))
        (pss_one (ps_ret pe_non)) pss_nil)
      (pss_one (ps_ret (pe_ifExp (pt_cmpR op_le (pe_callTy call_int_str (by rfl) B.int PyProof.Rows.boot_int (pa_cons (pv 0) pa_nil)) (pe_glob (v := .int 1000000) (by rfl) c.length ⟨_, rfl⟩) (nomark _))
        (pe_callTy call_int_str (by rfl) B.int PyProof.Rows.boot_int (pa_cons (pv 0) pa_nil)) pe_non))), ?_⟩
    obtain ⟨_, hi, l1, hc⟩ := dig_facts n1 n5
    have fg := dig_figures n1 n5
    obtain ⟨x, hx⟩ : ∃ x, (digS n).cps.toList = [x] := by
      have q : (digS n).cps.toList.length = 1 := by rw [Array.length_toList]; exact l1
      cases e : (digS n).cps.toList with
      | nil => rw [e] at q; cases q
      | cons a r => cases r with
        | nil => exact ⟨a, rfl⟩
        | cons b r => rw [e] at q; simp at q
    have hx48 := hc x (by rw [hx]; exact List.mem_cons_self)
    have small : (digS n).length ≤ sizeLine := by have := small1000 (n := 1) (by decide); omega
    refine ⟨_, rfl, digS n, rfl, small, _, _, rfl, rfl, _, rfl, ?_⟩
    refine ite2 (fun _ => ?_) (fun c => absurd (decide_eq_true (by omega)) c)
    refine ⟨_, _, rfl, rfl, _, rfl, ?_⟩
    refine iteNS (by omega) ?_
    refine ⟨_, rfl, digS n, 0, x, rfl, rfl, small, (by rw [hx]; rfl), rfl, _, rfl, ?_⟩
    refine ite2 (fun c => ?_) (fun _ => ?_)
    · exfalso
      have z := of_decide_eq_true c
      injection z with z
      have z2 : (⟨#[x]⟩ : Str).cps.toList = ("0" : Str).cps.toList := by rw [z]
      have z3 : ("0" : Str).cps.toList = [48] := by decide +kernel
      rw [z3] at z2
      have z4 : [x] = [48] := z2
      injection z4 with z4
      omega
    · refine ⟨_, rfl, digS n, rfl, fun D nD => lc_str (AllIn H D) ⟨same_upd nD, upd_same⟩ ?_ ?_⟩
      · intro i x H1 hx Pk
        have hin : x ∈ (digS n).cps.toList := by
          have q : (digS n).cps.toList[i]? = some x := by rw [Array.getElem?_toList]; exact hx
          exact List.mem_of_getElem? q
        have hil : i < (digS n).cps.size := (Array.getElem?_eq_some_iff.mp hx).1
        have hzl : (digS n).cps.size = 1 := l1
        refine ⟨rfl, yes_of (iteT ?_)⟩
        refine ⟨_, rfl, x, figures, rfl, rfl, ?_⟩
        rw [decide_eq_true (fg x hin)]
        exact allIn_on nD Pk (by omega)
      · rintro H1 ⟨s1, hD⟩
        refine ⟨D, _, rfl, SqL.of hD, ?_⟩
        rw [all_true]
        refine ⟨true, rfl, iteF ?_⟩
        refine ⟨_, rfl, digS n, n, rfl, hi, by omega, _, _, rfl, rfl, _, rfl, ?_⟩
        refine ite2 (fun _ => ?_) (fun c => absurd (decide_eq_true (by omega)) c)
        exact ⟨_, rfl, digS n, n, rfl, hi, by omega, k H1 s1⟩
end
end L2.T
set_option maxHeartbeats 2000000
namespace L2.T
open PySem PySem.Spec PyProof.Rows
open PySem.W (dataLt dataLe alike AllAlike Sortable EachIs)
open Thin
def spPlaceF : Sp := fun vs H Q _ => ∃ (wa la ta : Addr) (p : Str) (qs : List Str), vs = [.ref wa, .ref la, .ref ta] ∧ H wa = some (.lst [.str "place", .str p]) ∧ H la = some (.lst (qs.map V.str)) ∧ H ta = some (.lst []) ∧
  p ∈ pool ∧ (∀ q ∈ qs, q ∈ pool ∧ sLt q p) ∧ qs.length < 24 ∧ ∀ H', Same H H' → Q .non H'
def spTieF (K : PySem.W.Frag) : Sp := fun vs H Q _ => ∃ (wa la ta : Addr) (t : Tie) (ps : List Str) (us : List Tie) (xs : List V), vs = [.ref wa, .ref la, .ref ta] ∧ H wa = some (.lst [.str "tie", .str t.1, .str t.2.1, .str (digS t.2.2)]) ∧ H la = some (.lst (ps.map V.str)) ∧
  H ta = some (.lst xs) ∧ DpAll K H xs (us.map tieD) ∧ t.1 ∈ ps ∧ t.2.1 ∈ ps ∧ sLt t.1 t.2.1 ∧ 1 ≤ t.2.2 ∧ t.2.2 ≤ 5 ∧ us.length < 60 ∧ (∀ u ∈ us, pLt (pk u) (pk t)) ∧ TOk us ∧ (∀ q ∈ ps, q ∈ pool) ∧ ∀ H', Same H H' → Q .non H'
abbrev sPlaceF : Stmt := topS 24
abbrev sTieF : Stmt := topS 25
theorem eqv_void {β : Type} {enc : β → PyData} (l : List β) : PyData.eqv (.list (l.map enc)) (.list []) = decide (l = []) := by
  cases l with
  | nil => simp [PyData.eqv, PyData.eqvAll]
  | cons a r => simp [PyData.eqv, PyData.eqvAll]
theorem void_shaped : SeqAt.shaped (.list []) = true := by decide +kernel
theorem strs_lay : ∀ qs : List Str, (∀ q ∈ qs, q ∈ pool) → PyData.canLayAll0 (qs.map PyData.str) = true ∧ PyData.depthAll (qs.map PyData.str) ≤ 4
  | [], _ => ⟨by simp [PyData.canLayAll0], by simp [PyData.depthAll]⟩
  | q :: qs, h => by
    obtain ⟨a, b⟩ := strs_lay qs fun u hu => h u (List.mem_cons_of_mem _ hu)
    have e2 := pool_ok _ (h q List.mem_cons_self)
    refine ⟨by simp [PyData.canLayAll0, PyData.canLay0, a, e2], ?_⟩
    have e3 : PyData.depthAll ((q :: qs).map PyData.str) = max (PyData.depth (.str q)) (PyData.depthAll (qs.map PyData.str)) := by simp [PyData.depthAll]
    have e4 : PyData.depth (.str q) = 0 := by simp [PyData.depth]
    omega
theorem list_shaped {ds : List PyData} (h : PyData.canLayAll0 ds = true ∧ PyData.depthAll ds ≤ 4) : SeqAt.shaped (.list ds) = true := by
  obtain ⟨a, b⟩ := h
  have e : (PyData.list ds).depth = PyData.depthAll ds + 1 := by simp [PyData.depth]
  have e2 : (PyData.list ds).canLay0 = true := by simp [PyData.canLay0, a]
  unfold SeqAt.shaped
  rw [e2, e, Bool.true_and]
  exact decide_eq_true (by omega)
section
variable {P : Program} {w : World} {K : PySem.W.Frag} {mg : Str → Option Value} {base : Heap} {t1 t2 t3 t4 t5 t6 : Tok}
theorem scPf : FnScope ["words", "places", "ties"] ["words", "places", "ties"] (defScope sPlaceF) := ⟨rfl, rfl, rfl, by decide +kernel, rfl, by decide +kernel, by decide +kernel⟩
theorem ok_placeF {f fN : Addr} {fd fdN : FuncData} (A : At K mg "place_fault" "place_fault" sPlaceF f fd) (N : At K mg "is_name" "is_name" sName fN fdN) (bN : Binds K fdN ["thing"] []) (c : Cst mg t1 t2 t3 t4 t5 t6) (B : Blt mg) :
    FnOk P w K mg base CX0 2 f fd ["words", "places", "ties"] spPlaceF := by
  have GN : FnOk P w K mg base CX0 1 fN fdN ["thing"] spName := ok_name N c B
  refine A.F.ok scPf (fun vs H Q E h => ?_) (fun cdv A outer s H vs Q E hr h => ?_)
  · obtain ⟨wa, la, ta, p, qs, rfl, _⟩ := h
    rfl
  · obtain ⟨wa, la, ta, p, qs, rfl, hw, hl, ht, hp, hq, few, k⟩ := h
    refine ⟨_, pss_cons (ps_if (PW.pt (pw_or (pt_cmpR (op_neD hr.units) (pv 2) (pe_lst pa_nil) (nomark _)) (pw_or1 (pt_cmpR op_eq (pe_callB call_len_seq (by rfl) B.len PySem.boot_len (pa_cons (pv 1) pa_nil)) (pe_glob (v := .int 24) (by rfl) c.places ⟨_, rfl⟩) (nomark _))))) (pss_one (ps_ret pe_int)) pss_nil)
      (pss_cons (ps_if (PW.pt (pw_or (pt_cmpR op_eq (pe_callB call_len_seq (by rfl) B.len PySem.boot_len (pa_cons (pv 0) pa_nil)) pe_int (nomark _))
        (pw_or (pt_not (pt_val (pe_call GN hr (by rfl) N.g N.F.kp bN .nil pass0 (pa_cons (pe_ix ix_list (pv 0) pe_int (fun _ _ => rfl)) pa_nil))))
        (pw_or1 (PW.pt (pw_and (pt_cmpR (op_neD hr.units) (pv 1) (pe_lst pa_nil) (nomark _)) (pw_and1 (pt_cmpR op_le_str (pe_ix ix_list (pv 0) pe_int (fun _ _ => rfl)) (pe_ix ix_list (pv 1) (pe_un un_neg pe_int) (fun _ _ => rfl)) (nomark _)))))))))
        (pss_one (ps_ret pe_int)) pss_nil)
      (pss_one (ps_ret (pe_ifExp (pt_cmpR op_eq (pe_callB call_len_seq (by rfl) B.len PySem.boot_len (pa_cons (pv 0) pa_nil)) pe_int (nomark _)) pe_non pe_int)))), ?_⟩
    refine ⟨_, rfl, (by show 0 ≤ sizeLine; decide), fun e ne => ?_⟩
    have s1 : Same H (upd H e (.lst [])) := same_upd ne
    refine ⟨.list [], .list [], .lst (SqL.of (s1 _ _ ht)) .nil, .lst (SqL.of upd_same) .nil, void_shaped, void_shaped, _, rfl, ?_⟩
    have ev : PyData.eqv (.list []) (.list []) = true := by simp [PyData.eqv, PyData.eqvAll]
    rw [ev]
    refine iteF ?_
    refine ⟨_, rfl, la, _, rfl, .inl (SqL.of (s1 _ _ hl)), rfl, _, rfl, ?_⟩
    refine ite2 (fun z => ?_) (fun _ => ?_)
    · exfalso
      have z := of_decide_eq_true z
      injection z with z
      rw [List.length_map] at z
      omega
    · generalize upd H e (.lst []) = H1 at s1
      refine ⟨_, rfl, wa, _, rfl, .inl (SqL.of (s1 _ _ hw)), rfl, _, rfl, ?_⟩
      refine iteF ?_
      refine ⟨_, rfl, wa, _, _, _, rfl, rfl, SqL.of (s1 _ _ hw), rfl, p, rfl, hp, fun H2 s2 => ⟨true, rfl, iteF ?_⟩⟩
      have s12 := s1.trans s2
      refine ⟨_, rfl, (by show 0 ≤ sizeLine; decide), fun e2 ne2 => ?_⟩
      have s3 : Same H2 (upd H2 e2 (.lst [])) := same_upd ne2
      have s13 := s12.trans s3
      refine ⟨.list (qs.map PyData.str), .list [], .lst (SqL.of (s13 _ _ hl)) (strs_dp qs), .lst (SqL.of upd_same) .nil, list_shaped (strs_lay qs fun q hq' => (hq q hq').1), void_shaped, _, rfl, ?_⟩
      generalize upd H2 e2 (.lst []) = H3 at s3 s13
      rw [eqv_void]
      refine ite2 (fun z => ?_) (fun z => ?_)
      · have nq : qs ≠ [] := fun z2 => by rw [z2] at z; simp at z
        obtain ⟨L, b, eq⟩ : ∃ L b, qs = L ++ [b] := ⟨qs.dropLast, qs.getLast nq, (List.dropLast_concat_getLast nq).symm⟩
        have lb : sLt b p := (hq b (by rw [eq]; exact List.mem_append_right _ List.mem_cons_self)).2
        refine ⟨_, rfl, wa, _, _, _, rfl, rfl, SqL.of (s13 _ _ hw), rfl, _, rfl, _, rfl, la, _, _, _, rfl, rfl, SqL.of (s13 _ _ hl), (by rw [eq, List.map_append]; exact atI_last _ _), p, b, rfl, rfl, _, rfl, ?_⟩
        refine iteNS lb ?_
        refine ⟨_, rfl, wa, _, rfl, .inl (SqL.of (s13 _ _ hw)), rfl, _, rfl, ?_⟩
        exact iteT (k H3 s13)
      · refine iteF ?_
        refine ⟨_, rfl, wa, _, rfl, .inl (SqL.of (s13 _ _ hw)), rfl, _, rfl, ?_⟩
        exact iteT (k H3 s13)
theorem scTf : FnScope ["words", "places", "ties"] ["words", "places", "ties"] (defScope sTieF) := ⟨rfl, rfl, rfl, by decide +kernel, rfl, by decide +kernel, by decide +kernel⟩
theorem ok_tieF {f fL : Addr} {fd fdL : FuncData} (A : At K mg "tie_fault" "tie_fault" sTieF f fd) (N : At K mg "length_of_word" "length_of_word" sLen fL fdL) (bN : Binds K fdL ["word"] []) (c : Cst mg t1 t2 t3 t4 t5 t6) (B : Blt mg) :
    FnOk P w K mg base CX0 2 f fd ["words", "places", "ties"] (spTieF K) := by
  have GN : FnOk P w K mg base CX0 1 fL fdL ["word"] spLen := ok_len N c B
  refine A.F.ok scTf (fun vs H Q E h => ?_) (fun cdv A outer s H vs Q E hr h => ?_)
  · obtain ⟨wa, la, ta, t, ps, us, xs, rfl, _⟩ := h
    rfl
  · obtain ⟨wa, la, ta, t, ps, us, xs, rfl, hw, hl, ht, dx, e1, e2, lt12, n1, n5, few, below, tok, inp, k⟩ := h
    refine ⟨_, pss_cons (ps_if (pt_cmpR op_eq (pe_callB call_len_seq (by rfl) B.len PySem.boot_len (pa_cons (pv 2) pa_nil)) (pe_glob (v := .int 60) (by rfl) c.ties ⟨_, rfl⟩) (nomark _)) (pss_one (ps_ret pe_int)) pss_nil)
      (pss_cons (ps_if (PW.pt (pw_or (pt_cmpR op_eq (pe_callB call_len_seq (by rfl) B.len PySem.boot_len (pa_cons (pv 0) pa_nil)) pe_int (nomark _)) (pw_or1 (pt_cmpR op_notIn_seq (pe_ix ix_list (pv 0) pe_int (fun _ _ => rfl)) (pv 1) (by rfl))))) (pss_one (ps_ret pe_int)) pss_nil)
      (pss_cons (ps_if (PW.pt (pw_or (pt_cmpR op_eq (pe_callB call_len_seq (by rfl) B.len PySem.boot_len (pa_cons (pv 0) pa_nil)) pe_int (nomark _)) (pw_or (pt_cmpR op_notIn_seq (pe_ix ix_list (pv 0) pe_int (fun _ _ => rfl)) (pv 1) (by rfl))
        (pw_or1 (pt_cmpR op_le_str (pe_ix ix_list (pv 0) pe_int (fun _ _ => rfl)) (pe_ix ix_list (pv 0) pe_int (fun _ _ => rfl)) (nomark _)))))) (pss_one (ps_ret pe_int)) pss_nil)
      (pss_cons (ps_if (PW.pt (pw_and (pt_cmpR (op_neD hr.units) (pv 2) (pe_lst pa_nil) (nomark _)) (pw_and1 (pt_cmpR (op_leD hr.units) (pe_tup (pa_cons (pe_ix ix_list (pv 0) pe_int (fun _ _ => rfl)) (pa_cons (pe_ix ix_list (pv 0) pe_int (fun _ _ => rfl)) pa_nil)))
        (pe_slice sl_tup (pe_ix ix_list (pv 2) (pe_un un_neg pe_int) (fun _ _ => rfl)) po_none (po_some pe_int)) (nomark _))))) (pss_one (ps_ret pe_int)) pss_nil)
      (pss_cons (ps_if (PW.pt (pw_or (pt_cmpR op_eq (pe_callB call_len_seq (by rfl) B.len PySem.boot_len (pa_cons (pv 0) pa_nil)) pe_int (nomark _)) (pw_or1 (pt_cmpR op_isN (pe_call GN hr (by rfl) N.g N.F.kp bN .nil pass0 (pa_cons (pe_ix ix_list (pv 0) pe_int (fun _ _ => rfl)) pa_nil)) pe_non (nomark _))))) (pss_one (ps_ret pe_int)) pss_nil)
      (pss_one (ps_ret (pe_ifExp (pt_cmpR op_eq (pe_callB call_len_seq (by rfl) B.len PySem.boot_len (pa_cons (pv 0) pa_nil)) pe_int (nomark _)) pe_non pe_int))))))), ?_⟩
    have lx : xs.length = us.length := dp_len dx
    refine ⟨_, rfl, ta, xs, rfl, .inl (SqL.of ht), rfl, _, rfl, ?_⟩
    refine ite2 (fun z => ?_) (fun _ => ?_)
    · exfalso
      have z := of_decide_eq_true z
      injection z with z
      omega
    · refine ⟨_, rfl, wa, _, rfl, .inl (SqL.of hw), rfl, _, rfl, ?_⟩
      refine iteF ?_
      have q1 := inV_strs t.1 ps
      have q2 := inV_strs t.2.1 ps
      rw [decide_eq_true e1] at q1
      rw [decide_eq_true e2] at q2
      refine ⟨_, rfl, wa, _, _, _, rfl, rfl, SqL.of hw, rfl, _, rfl, la, _, rfl, .inl (SqL.of hl), rfl, flat_strs ps, _, rfl, ?_⟩
      rw [if_pos rfl, q1]
      refine iteF ?_
      refine ⟨_, rfl, wa, _, rfl, .inl (SqL.of hw), rfl, _, rfl, ?_⟩
      refine iteF ?_
      refine ⟨_, rfl, wa, _, _, _, rfl, rfl, SqL.of hw, rfl, _, rfl, la, _, rfl, .inl (SqL.of hl), rfl, flat_strs ps, _, rfl, ?_⟩
      rw [if_pos rfl, q2]
      refine iteF ?_
      refine ⟨_, rfl, wa, _, _, _, rfl, rfl, SqL.of hw, rfl, _, rfl, wa, _, _, _, rfl, rfl, SqL.of hw, rfl, t.2.1, t.1, rfl, rfl, _, rfl, ?_⟩
      refine iteNS lt12 ?_
      have lshape : SeqAt.shaped (.list (us.map tieD)) = true := list_shaped (ties_lay us tok)
      refine ⟨_, rfl, (by show 0 ≤ sizeLine; decide), fun e ne => ?_⟩
      have s1 : Same H (upd H e (.lst [])) := same_upd ne
      refine ⟨.list (us.map tieD), .list [], .lst (SqL.of (s1 _ _ ht)) (DpAll_same s1 dx), .lst (SqL.of upd_same) .nil, lshape, void_shaped, _, rfl, ?_⟩
      rw [eqv_void]
      generalize upd H e (.lst []) = H1 at s1
      refine ite2 (fun z => ?_) (fun z => ?_)
      · have nu : us ≠ [] := fun z2 => by rw [z2] at z; simp at z
        obtain ⟨L, b, eq⟩ : ∃ L b, us = L ++ [b] := ⟨us.dropLast, us.getLast nu, (List.dropLast_concat_getLast nu).symm⟩
        have lb : pLt (pk b) (pk t) := below b (by rw [eq]; exact List.mem_append_right _ List.mem_cons_self)
        obtain ⟨vb, hvb, dvb⟩ := dp_put dx (i := L.length) (b := b) (by rw [eq]; simp)
        obtain ⟨ba, rfl, hba⟩ := tie_of dvb
        have exs : xs = xs.dropLast ++ [.ref ba] := by
          have lL : us.length = L.length + 1 := by rw [eq]; simp
          have nx : xs ≠ [] := fun z => by rw [z] at lx; simp at lx; omega
          have g : xs.getLast nx = .ref ba := by
            have g1 := List.getLast_eq_getElem (l := xs) nx
            rw [g1]
            have g2 : xs[L.length]? = some (xs[xs.length - 1]'(by omega)) := by
              rw [List.getElem?_eq_getElem (by omega)]
              congr 1
              congr 1
              omega
            rw [hvb] at g2
            exact (Option.some.inj g2).symm
          rw [← g]
          exact (List.dropLast_concat_getLast nx).symm
        refine ⟨_, rfl, wa, _, _, _, rfl, rfl, SqL.of (s1 _ _ hw), rfl, _, rfl, wa, _, _, _, rfl, rfl, SqL.of (s1 _ _ hw), rfl, (by show 2 ≤ sizeLine; decide), fun q nq => ?_⟩
        have s2 := same_upd (o := .tup [.str t.1, .str t.2.1]) nq
        refine ⟨_, rfl, _, rfl, ta, _, _, _, rfl, rfl, SqL.of (s2 _ _ (s1 _ _ ht)), (by rw [exs]; exact atI_last _ _), _, rfl, ba, _, rfl, seqT_same (s1.trans s2) hba, (by show ¬ (HT.sIx 3 0 none = 0 ∧ HT.sIx 3 3 (some 2) = 3); decide), fun q3 nq3 => ?_⟩
        have s3 := same_upd (o := .tup (cutV [.str b.1, .str b.2.1, .int b.2.2] none (some 2))) nq3
        refine ⟨prD (pk t), prD (pk b), .tup (seqT_same s3 (SqT.of upd_same)) (.cons (.str _) (.cons (.str _) .nil)), .tup (SqT.of upd_same) (.cons (.str _) (.cons (.str _) .nil)), (by simp [prD, alike, PySem.W.alikeAll]), (fun z => PyData.noConfusion z), (by simp [prD, PyData.depth, PyData.depthAll]), _, rfl, ?_⟩
        rw [lt_pr]
        refine iteNS lb ?_
        have sAll := s1.trans (s2.trans s3)
        refine ⟨_, rfl, wa, _, rfl, .inl (SqL.of (sAll _ _ hw)), rfl, _, rfl, ?_⟩
        refine iteF ?_
        refine ⟨_, rfl, wa, _, _, _, rfl, rfl, SqL.of (sAll _ _ hw), rfl, t.2.2, rfl, n1, n5, fun H4 s4 => ?_⟩
        refine ⟨rfl, _, rfl, ite2 (fun z => nomatch (of_decide_eq_true z)) (fun _ => ?_)⟩
        refine ⟨_, rfl, wa, _, rfl, .inl (SqL.of (s4 _ _ (sAll _ _ hw))), rfl, _, rfl, ?_⟩
        exact iteT (k H4 (sAll.trans s4))
      · refine iteF ?_
        refine ⟨_, rfl, wa, _, rfl, .inl (SqL.of (s1 _ _ hw)), rfl, _, rfl, ?_⟩
        refine iteF ?_
        refine ⟨_, rfl, wa, _, _, _, rfl, rfl, SqL.of (s1 _ _ hw), rfl, t.2.2, rfl, n1, n5, fun H4 s4 => ?_⟩
        refine ⟨rfl, _, rfl, ite2 (fun z => nomatch (of_decide_eq_true z)) (fun _ => ?_)⟩
        refine ⟨_, rfl, wa, _, rfl, .inl (SqL.of (s4 _ _ (s1 _ _ hw))), rfl, _, rfl, ?_⟩
        exact iteT (k H4 (s1.trans s4))
end
end L2.T
set_option maxHeartbeats 2000000
namespace L2.T
open PySem PySem.Spec PyProof.Rows
open PySem.W (dataLt dataLe alike AllAlike Sortable EachIs)
open Thin
def netLines (ps : List Str) (ts : List Tie) : List Str := ps.map placeLine ++ ts.map tieLine
def spRead (K : PySem.W.Frag) : Sp := fun vs H Q _ => ∃ (l : Addr) (ps : List Str) (ts : List Tie), vs = [.ref l] ∧ SqL K H l ((netLines ps ts).map V.str) ∧ NetOk ps ts ∧ (∀ t ∈ ts, t.2.2 ≤ 5) ∧
  ∀ (H' : Hp) (u : V), Same H H' → Dp K H' u (netD ps ts) → Q u H'
abbrev sRead : Stmt := topS 26
theorem before_of {α : Type} {R : α → α → Prop} {l : List α} {j : Nat} {t : α} (h : l.Pairwise R) (e : l[j]? = some t) : ∀ u ∈ l.take j, R u t := by
  rw [← List.take_append_drop j l] at h
  obtain ⟨_, _, h3⟩ := List.pairwise_append.mp h
  intro u hu
  refine h3 u hu t ?_
  have q : (l.drop j)[0]? = some t := by rw [List.getElem?_drop]; exact e
  exact List.mem_of_getElem? q
theorem line_place {ps : List Str} {ts : List Tie} {i : Nat} {p : Str} (h : ps[i]? = some p) : ((netLines ps ts).map V.str)[i]? = some (.str (placeLine p)) := by
  have hi := (List.getElem?_eq_some_iff.mp h).1
  unfold netLines
  rw [List.getElem?_map, List.getElem?_append_left (by rw [List.length_map]; exact hi), List.getElem?_map, h]
  rfl
theorem line_tie {ps : List Str} {ts : List Tie} {i : Nat} {t : Tie} (hi : ps.length ≤ i) (h : ts[i - ps.length]? = some t) : ((netLines ps ts).map V.str)[i]? = some (.str (tieLine t)) := by
  unfold netLines
  rw [List.getElem?_map, List.getElem?_append_right (by rw [List.length_map]; exact hi), List.length_map, List.getElem?_map, h]
  rfl
theorem word_place : ¬ ("tie" : Str) = "place" := by decide +kernel
abbrev nRead : List Str := ["lines", "places", "ties", "row", "words", "fault"]
section
variable {P : Program} {w : World} {K : PySem.W.Frag} {mg : Str → Option Value} {base : Heap} {t1 t2 t3 t4 t5 t6 : Tok}
theorem scRd : FnScope nRead ["lines"] (defScope sRead) := ⟨rfl, rfl, rfl, by decide +kernel, rfl, by decide +kernel, by decide +kernel⟩
theorem ok_read {f fP fT fL fN : Addr} {fd fdP fdT fdL fdN : FuncData} (A : At K mg "read_net" "read_net" sRead f fd) (PF : At K mg "place_fault" "place_fault" sPlaceF fP fdP) (bP : Binds K fdP ["words", "places", "ties"] []) (TF : At K mg "tie_fault" "tie_fault" sTieF fT fdT) (bT : Binds K fdT ["words", "places", "ties"] [])
    (L : At K mg "length_of_word" "length_of_word" sLen fL fdL) (bL : Binds K fdL ["word"] []) (N : At K mg "is_name" "is_name" sName fN fdN) (bN : Binds K fdN ["thing"] []) (c : Cst mg t1 t2 t3 t4 t5 t6) (B : Blt mg) :
    FnOk P w K mg base CX0 3 f fd ["lines"] (spRead K) := by
  have GP : FnOk P w K mg base CX0 2 fP fdP ["words", "places", "ties"] spPlaceF := ok_placeF PF N bN c B
  have GT : FnOk P w K mg base CX0 2 fT fdT ["words", "places", "ties"] (spTieF K) := ok_tieF TF L bL c B
  have GL : FnOk P w K mg base CX0 1 fL fdL ["word"] spLen := ok_len L c B
  refine A.F.ok scRd (fun vs H Q E h => ?_) (fun cdv A outer s H vs Q E hr h => ?_)
  · obtain ⟨l, ps, ts, rfl, _⟩ := h
    rfl
  · obtain ⟨l, ps, ts, rfl, hl, NO, five, k⟩ := h
    have hr1 : Room 1 _ := hr.mono (by decide)
    refine ⟨_, pss_cons (ps_set (i := 1) scRd.nd rfl (Or.inl rfl) (pe_lst pa_nil))
      (pss_cons (ps_set (i := 2) scRd.nd rfl (Or.inl rfl) (pe_lst pa_nil))
      (pss_cons (ps_for PassesOwn.never rfl (pi_range1 (by rfl) B.range (pa_cons (pe_callB call_len_seq (by rfl) B.len PySem.boot_len (pa_cons (pv 0) pa_nil)) pa_nil)) (pg_name (i := 3) scRd.nd rfl (Or.inl rfl))
        (pss_cons (ps_set (i := 4) scRd.nd rfl (Or.inl rfl) (pe_split (pe_ix ix_list (pv 0) (pv 3) (fun _ _ => rfl)) pe_str))
        (pss_cons (ps_set (i := 5) scRd.nd rfl (Or.inl rfl) pe_int)
        (pss_cons (ps_if (pt_cmpR op_eq (pe_ix ix_list (pv 4) pe_int (fun _ _ => rfl)) pe_str (nomark _))
          (pss_one (ps_set (i := 5) scRd.nd rfl (Or.inl rfl) (pe_call GP hr (by rfl) PF.g PF.F.kp bP .nil pass0 (pa_cons (pv 4) (pa_cons (pv 1) (pa_cons (pv 2) pa_nil))))))
          (pss_one (ps_if (pt_cmpR op_eq (pe_ix ix_list (pv 4) pe_int (fun _ _ => rfl)) pe_str (nomark _))
            (pss_one (ps_set (i := 5) scRd.nd rfl (Or.inl rfl) (pe_call GT hr (by rfl) TF.g TF.F.kp bT .nil pass0 (pa_cons (pv 4) (pa_cons (pv 1) (pa_cons (pv 2) pa_nil))))))
            pss_nil)))
        (pss_cons (ps_if (pt_cmpR op_notN (pv 5) pe_non (nomark _)) (pss_one ps_never) pss_nil)
        (pss_one (ps_if (pt_cmpR op_eq (pe_ix ix_list (pv 4) pe_int (fun _ _ => rfl)) pe_str (nomark _))
          (pss_one (ps_expr (pe_bm PySem.F.plainAttrs_list PySem.F.slot_list_append PySem.F.type_list_append mt_append (pv 1) (pa_cons (pe_ix ix_list (pv 4) pe_int (fun _ _ => rfl)) pa_nil))))
          (pss_one (ps_expr (pe_bm PySem.F.plainAttrs_list PySem.F.slot_list_append PySem.F.type_list_append mt_append (pv 2) (pa_cons (pe_tup (pa_cons (pe_ix ix_list (pv 4) pe_int (fun _ _ => rfl)) (pa_cons (pe_ix ix_list (pv 4) pe_int (fun _ _ => rfl))
            (pa_cons (pe_call GL hr1 (by rfl) L.g L.F.kp bL .nil pass0 (pa_cons (pe_ix ix_list (pv 4) pe_int (fun _ _ => rfl)) pa_nil)) pa_nil)))) pa_nil)))))))))))
      (pss_one (ps_ret (pe_tup (pa_cons (pe_callTy call_tuple_of (by rfl) B.tuple (by decide +kernel) (pa_cons (pv 1) pa_nil)) (pa_cons (pe_callTy call_tuple_of (by rfl) B.tuple (by decide +kernel) (pa_cons (pv 2) pa_nil)) pa_nil))))))), ?_⟩
    have ll : ((netLines ps ts).map V.str).length = ps.length + ts.length := by simp [netLines]
    have f24 := NO.few
    have f60 := NO.tfew
    refine ⟨(by show 0 ≤ sizeLine; decide), fun dp ndp => ⟨(by show 0 ≤ sizeLine; decide), fun dt ndt => ?_⟩⟩
    have s0 : Same H (upd (upd H dp (.lst [])) dt (.lst [])) := (same_upd ndp).trans (same_upd ndt)
    have npt : dp ≠ dt := ne_of_none upd_same ndt
    have nH : H dt = none := (same_upd ndp).free ndt
    refine ⟨_, rfl, l, _, rfl, .inl (seqL_same s0 hl), _, rfl, by rw [ll]; omega, by rw [ll]; omega, ?_⟩
    rw [ll]
    refine for_range (lo := 0) (n := ((ps.length + ts.length : Nat) : Int).toNat) (fun i σ H' => ∃ (xs : List V) (s3 s4 s5 : Option V), σ = [some (.ref l), some (.ref dp), some (.ref dt), s3, s4, s5] ∧ Same H H' ∧ H' dp = some (.lst ((ps.take i).map V.str)) ∧ H' dt = some (.lst xs) ∧
      DpAll K H' xs ((ts.take (i - ps.length)).map tieD)) ⟨[], _, _, _, rfl, s0, (by rw [upd_ne npt]; exact upd_same), upd_same, (by rw [Nat.zero_sub]; exact .nil)⟩ ?_ ?_
    · rintro i σ H1 hi ⟨xs, s3, s4, s5, rfl, s1, hdp, hdt, dx⟩
      rw [Int.toNat_natCast] at hi
      have e0 : (0 : Int) + (i : Int) = (i : Int) := Int.zero_add _
      have key : ∀ z : Str, ((netLines ps ts).map V.str)[i]? = some (.str z) → atI ((netLines ps ts).map V.str) ((0 : Int) + (i : Int)) = some (.str z) := fun z h => by
        rw [e0]; exact atI_nat h
      by_cases c1 : i < ps.length
      · obtain ⟨p, hp⟩ : ∃ p, ps[i]? = some p := ⟨_, List.getElem?_eq_getElem c1⟩
        have pp := NO.inPool p (List.mem_of_getElem? hp)
        have e1 : i - ps.length = 0 := by omega
        rw [e1] at dx
        have exs : xs = [] := by
          have := dp_len dx
          rw [List.take_zero] at this
          exact List.length_eq_zero_iff.mp this
        subst exs
        refine ⟨_, rfl, _, rfl, l, _, _, _, rfl, rfl, seqL_same s1 hl, key _ (line_place hp), ⟨_, rfl⟩, _, _, rfl, rfl, (by decide +kernel), (by have := place_short pp; have := small1000 (n := 32) (by decide); omega), fun wa nwa => ?_⟩
        rw [split_place pp]
        have s2 : Same H1 (upd H1 wa (.lst (([("place" : Str), p] : List Str).map V.str))) := same_upd nwa
        have hw : (upd H1 wa (.lst (([("place" : Str), p] : List Str).map V.str))) wa = some (.lst [.str "place", .str p]) := upd_same
        generalize upd H1 wa (.lst (([("place" : Str), p] : List Str).map V.str)) = H2 at s2 hw
        refine ⟨_, rfl, wa, _, _, _, rfl, rfl, SqL.of hw, rfl, rfl, _, rfl, ?_⟩
        refine ite2 (fun _ => ?_) (fun c => absurd (decide_eq_true rfl) c)
        refine ⟨_, rfl, _, rfl, _, rfl, wa, dp, dt, p, ps.take i, rfl, hw, s2 _ _ hdp, s2 _ _ hdt, pp, fun q hq => ⟨NO.inPool q (List.mem_of_mem_take hq), before_of NO.up hp q hq⟩, (by rw [List.length_take]; omega), fun H3 s3 => ?_⟩
        refine ⟨_, rfl, rfl, _, rfl, ?_⟩
        refine iteF ?_
        have s23 := s2.trans s3
        have hw3 := s3 _ _ hw
        refine ⟨_, rfl, wa, _, _, _, rfl, rfl, SqL.of hw3, rfl, rfl, _, rfl, ?_⟩
        refine ite2 (fun _ => ?_) (fun c => absurd (decide_eq_true rfl) c)
        have hdp3 := s23 _ _ hdp
        refine ⟨_, rfl, .inl ⟨rfl, _, SqL.of hdp3⟩, _, rfl, wa, _, _, _, rfl, rfl, SqL.of hw3, rfl, dp, _, _, rfl, rfl, hdp3, small1000 (by rw [List.length_map, List.length_take]; omega), ?_⟩
        refine ⟨[], _, _, _, rfl, fun b o e => ?_, ?_, (by rw [upd_ne npt.symm]; exact s23 _ _ hdt), (by rw [show i + 1 - ps.length = 0 by omega]; exact .nil)⟩
        · rw [upd_ne (ne_of_none e ndp)]
          exact s23 _ _ (s1 _ _ e)
        · rw [upd_same, List.take_add_one, hp, List.map_append]
          rfl
      · have c2 : ps.length ≤ i := by omega
        obtain ⟨t, ht⟩ : ∃ t, ts[i - ps.length]? = some t := ⟨_, List.getElem?_eq_getElem (by omega)⟩
        have mt := List.mem_of_getElem? ht
        have pt := TOk.of NO t mt
        have lt := NO.lens t mt
        have en := NO.ends t mt
        have l5 := five t mt
        have tk : ps.take i = ps := List.take_of_length_le c2
        rw [tk] at hdp
        have lxs : xs.length ≤ 60 := by
          have q := dp_len dx
          rw [List.length_take] at q
          omega
        refine ⟨_, rfl, _, rfl, l, _, _, _, rfl, rfl, seqL_same s1 hl, key _ (line_tie c2 ht), ⟨_, rfl⟩, _, _, rfl, rfl, (by decide +kernel), (by have := lens_short pt.1 pt.2 lt.1 l5; have := small1000 (n := 32) (by decide); omega), fun wa nwa => ?_⟩
        rw [split_tie pt.1 pt.2 lt.1 l5]
        have s2 : Same H1 (upd H1 wa (.lst (([("tie" : Str), t.1, t.2.1, digS t.2.2] : List Str).map V.str))) := same_upd nwa
        have hw : (upd H1 wa (.lst (([("tie" : Str), t.1, t.2.1, digS t.2.2] : List Str).map V.str))) wa = some (.lst [.str "tie", .str t.1, .str t.2.1, .str (digS t.2.2)]) := upd_same
        generalize upd H1 wa (.lst (([("tie" : Str), t.1, t.2.1, digS t.2.2] : List Str).map V.str)) = H2 at s2 hw
        have nw : ¬ V.str ("tie" : Str) = V.str "place" := fun z => by injection z with z; exact word_place z
        refine ⟨_, rfl, wa, _, _, _, rfl, rfl, SqL.of hw, rfl, rfl, _, rfl, ?_⟩
        refine ite2 (fun c => absurd (of_decide_eq_true c) nw) (fun _ => ?_)
        refine ⟨_, rfl, wa, _, _, _, rfl, rfl, SqL.of hw, rfl, rfl, _, rfl, ?_⟩
        refine ite2 (fun _ => ?_) (fun c => absurd (decide_eq_true rfl) c)
        refine ⟨_, rfl, _, rfl, _, rfl, wa, dp, dt, t, ps, ts.take (i - ps.length), xs, rfl, hw, s2 _ _ hdp, s2 _ _ hdt, DpAll_same s2 dx, en.1, en.2.1, en.2.2, lt.1, l5, (by rw [List.length_take]; omega), before_of NO.tup ht, fun u hu => TOk.of NO u (List.mem_of_mem_take hu), NO.inPool, fun H3 s3 => ?_⟩
        refine ⟨_, rfl, rfl, _, rfl, ?_⟩
        refine iteF ?_
        have s23 := s2.trans s3
        have hw3 := s3 _ _ hw
        refine ⟨_, rfl, wa, _, _, _, rfl, rfl, SqL.of hw3, rfl, rfl, _, rfl, ?_⟩
        refine ite2 (fun c => absurd (of_decide_eq_true c) nw) (fun _ => ?_)
        have hdt3 := s23 _ _ hdt
        refine ⟨_, rfl, .inl ⟨rfl, _, SqL.of hdt3⟩, _, rfl, wa, _, _, _, rfl, rfl, SqL.of hw3, rfl, _, rfl, wa, _, _, _, rfl, rfl, SqL.of hw3, rfl, _, rfl, wa, _, _, _, rfl, rfl, SqL.of hw3, rfl, t.2.2, rfl, lt.1, l5, fun H4 s4 => ⟨(by show 3 ≤ sizeLine; decide), fun q nq => ?_⟩⟩
        have s5 : Same H4 (upd H4 q (.tup [.str t.1, .str t.2.1, .int t.2.2])) := same_upd nq
        have s25 := s23.trans (s4.trans s5)
        have hdt5 := s25 _ _ hdt
        have hq : (upd H4 q (.tup [.str t.1, .str t.2.1, .int t.2.2])) q = some (.tup [.str t.1, .str t.2.1, .int t.2.2]) := upd_same
        generalize upd H4 q (.tup [.str t.1, .str t.2.1, .int t.2.2]) = H5 at s5 s25 hdt5 hq
        have t6 : TupK H5 (upd H5 dt (.lst (xs ++ [.ref q]))) := TupK.but (p := dt) But.set (by rw [hdt5]; exact True.intro)
        refine ⟨dt, xs, _, rfl, rfl, hdt5, small1000 (by omega), xs ++ [.ref q], _, _, _, rfl, fun b o e => ?_, ?_, upd_same, ?_⟩
        · rw [upd_ne (ne_of_none e nH)]
          exact s25 _ _ (s1 _ _ e)
        · rw [upd_ne npt, List.take_of_length_le (by omega)]
          exact s25 _ _ hdp
        · rw [show i + 1 - ps.length = i - ps.length + 1 by omega, List.take_add_one, ht]
          exact ties_k t6 (dp_snoc (DpAll_same s25 dx) (tie_to (SqT.of hq)))
    · rintro σ H1 ⟨xs, s3, s4, s5, rfl, s1, hdp, hdt, dx⟩
      rw [Int.toNat_natCast] at hdp dx
      rw [List.take_of_length_le (by omega)] at hdp
      rw [List.take_of_length_le (by omega)] at dx
      refine ⟨_, rfl, dp, _, rfl, .inl ⟨SqL.of hdp, fun l1 nl1 => ?_⟩⟩
      have s2 : Same H1 (upd H1 l1 (.tup (ps.map V.str))) := same_upd nl1
      refine ⟨_, rfl, dt, xs, rfl, .inl ⟨SqL.of (s2 _ _ hdt), fun l2 nl2 => ⟨(by show 2 ≤ sizeLine; decide), fun u nu => ?_⟩⟩⟩
      have s3 := same_upd (o := .tup xs) nl2
      have s4 := same_upd (o := .tup [.ref l1, .ref l2]) nu
      exact k _ _ (s1.trans (s2.trans (s3.trans s4))) (net_to (SqT.of upd_same) (seqT_same (s3.trans s4) (SqT.of upd_same)) (seqT_same s4 (SqT.of upd_same)) (DpAll_same (s2.trans (s3.trans s4)) dx))
end
end L2.T
set_option maxHeartbeats 2000000
namespace L2.T
open PySem PySem.Spec PyProof.Rows
open PySem.W (dataLt dataLe alike AllAlike Sortable EachIs)
open Thin
def spUp (K : PySem.W.Frag) (C : Addr) : Sp := fun vs H Q _ => ∃ (l : Addr) (t : V) (ps : List Str) (ts : List Tie), vs = [.ref l, t] ∧ SqL K H l ((netLines ps ts).map V.str) ∧ NetOk ps ts ∧ (∀ t ∈ ts, t.2.2 ≤ 5) ∧ Times K H t ∧
  ∀ (H' : Hp) (p : Addr) (ks : List Tie), H p = none → Same H H' → KeepAt K C H' p ps ts ks → Q (.ref p) H'
abbrev sUp : Stmt := topS 37
section
variable {P : Program} {w : World} {K : PySem.W.Frag} {mg : Str → Option Value} {base : Heap}
theorem scUp : FnScope ["lines", "times", "keeper"] ["lines", "times"] (defScope sUp) := ⟨rfl, rfl, rfl, by decide +kernel, rfl, by decide +kernel, by decide +kernel⟩
theorem ok_up {f C fI fT fR : Addr} {fd fdI fdT fdR : FuncData} (A : At K mg "taken_up" "taken_up" sUp f fd) (T : KTxt K mg C) (gC : mg "Keeper" = some (.ref C)) (MK : Mk K C fI) (FI : Fun K "__init__" "Keeper.__init__" (sKeep 0) fI fdI) (bI : Binds K fdI ["self", "times"] [])
    (M : Me K C "turn" "Keeper.turn" (sKeep 1) fT fdT) (bT : Binds K fdT ["self", "net"] []) (GT : FnOk P w K mg base CX0 6 fT fdT ["self", "net"] (spTurn K C)) (R : At K mg "read_net" "read_net" sRead fR fdR) (bR : Binds K fdR ["lines"] [])
    (GR : FnOk P w K mg base CX0 3 fR fdR ["lines"] (spRead K)) : FnOk P w K mg base CX0 7 f fd ["lines", "times"] (spUp K C) := by
  have GI : FnOk P w K mg base CX0 1 fI fdI ["self", "times"] (spInit K C) := ok_kinit FI T
  refine A.F.ok scUp (fun vs H Q E h => ?_) (fun cdv A outer s H vs Q E hr h => ?_)
  · obtain ⟨l, t, ps, ts, rfl, _⟩ := h
    rfl
  · obtain ⟨l, t, ps, ts, rfl, hl, NO, five, ht, k⟩ := h
    have hr2 : Room 2 _ := hr.mono (by decide)
    have hr3 : Room 3 _ := hr.mono (by decide)
    refine ⟨_, pss_cons (ps_set (i := 2) scUp.nd rfl (Or.inl rfl) (pe_make MK GI hr2 (by rfl) gC bI .nil pass0 (pa_cons (pv 1) pa_nil)))
      (pss_cons (ps_expr (pe_meth (pv 2) T.cl M.m GT hr bT .nil pass0 (pa_cons (pe_call GR hr3 (by rfl) R.g R.F.kp bR .nil pass0 (pa_cons (pv 0) pa_nil)) pa_nil)))
      (pss_one (ps_ret (pv 2)))), ?_⟩
    refine ⟨_, rfl, fun x dx nx ndx ne => ?_⟩
    have s0 : Same H (upd (upd H dx (.own x)) x (.ins C dx [])) := fun b o e => by
      rw [upd_ne (ne_of_none e nx), upd_ne (ne_of_none e ndx)]
      exact e
    refine ⟨x, dx, t, rfl, upd_same, ht.same (TupK.of s0), fun H1 b1 K1 => ⟨rfl, ?_⟩⟩
    have s1 : Same H H1 := fun b o e => b1 b o (s0 b o e) (ne_of_none e nx)
    obtain ⟨dx', t', v', u', hx', r⟩ := id K1
    refine ⟨_, rfl, x, dx', _, rfl, hx', flds_no _ _ _ (by decide +kernel) (by decide +kernel) (by decide +kernel), _, rfl, l, ps, ts, rfl, seqL_same s1 hl, NO, five, fun H2 u s2 du => ?_⟩
    refine ⟨x, u, ps, [], ts, [], [], rfl, K1.same s2, du, TOk.of NO, (fun _ z => nomatch z), NO.tfew, Nat.zero_le _, fun H3 r ks b3 K3 => ?_⟩
    refine ⟨_, rfl, k H3 x ks nx (fun b o e => b3 b o (s2 b o (s1 b o e)) (ne_of_none e nx)) K3⟩
end
end L2.T
set_option maxHeartbeats 2000000
/-! The law's own defs: what it draws. -/
namespace L2.T
open PySem PySem.Spec PyProof.Rows
open PySem.W (dataLt dataLe alike AllAlike Sortable EachIs)
open Thin
theorem But.seqL {K : PySem.W.Frag} {H H' : Hp} {p a : Addr} {xs : List V} (e : But p H H') (h : SqL K H a xs) (n : a ≠ p) : SqL K H' a xs := by
  rcases h with h | h
  · exact .inl (e.rd h n)
  · exact .inr h
/-- the feed: its cells at cc, where it stands, the digits left; at most n were drawn -/
def FeedAt (K : PySem.W.Frag) (cc : Addr) (H : Hp) (f : Addr) (n : Nat) : Prop := ∃ (at_ dg : Int) (ms : List Int), H f = some (.lst [.ref cc, .int at_, .int dg]) ∧ H cc = some (.lst (ms.map V.int)) ∧ 0 ≤ at_ ∧ at_ ≤ n ∧ ms.length ≤ 63 ∧ cc ≠ f
theorem FeedAt.but {K : PySem.W.Frag} {cc : Addr} {H H' : Hp} {f : Addr} {n : Nat} (e : Same H H') (h : FeedAt K cc H f n) : FeedAt K cc H' f n := by
  obtain ⟨a, d, ms, h1, h2, h3⟩ := h
  exact ⟨a, d, ms, e _ _ h1, e _ _ h2, h3⟩
theorem FeedAt.more {K : PySem.W.Frag} {cc : Addr} {H : Hp} {f : Addr} {n m : Nat} (h : FeedAt K cc H f n) (l : n ≤ m) : FeedAt K cc H f m := by
  obtain ⟨a, d, ms, h1, h2, h3, h4, h5⟩ := h
  exact ⟨a, d, ms, h1, h2, h3, by omega, h5⟩
theorem FeedAt.keep {K : PySem.W.Frag} {cc p : Addr} {H H' : Hp} {f : Addr} {n : Nat} (e : But p H H') (n1 : f ≠ p) (n2 : cc ≠ p) (h : FeedAt K cc H f n) : FeedAt K cc H' f n := by
  obtain ⟨a, d, ms, h1, h2, h3⟩ := h
  exact ⟨a, d, ms, e _ _ h1 n1, e _ _ h2 n2, h3⟩
def spFeed (K : PySem.W.Frag) : Sp := fun vs H Q _ => ∃ (a : Addr) (ns : List Int), vs = [.ref a] ∧ SqL K H a (ns.map V.int) ∧ ∀ (H' : Hp) (f cc : Addr), Same H H' → FeedAt K cc H' f 0 → Q (.ref f) H'
def spNext (K : PySem.W.Frag) : Sp := fun vs H Q _ => ∃ (f cc : Addr) (m : Int) (n : Nat), vs = [.ref f, .int m] ∧ 0 < m ∧ m < 1073741824 ∧ FeedAt K cc H f n ∧ n ≤ 1000000 ∧
  ∀ (H' : Hp) (r : Int), 0 ≤ r → r < m → But f H H' → FeedAt K cc H' f (n + 1) → Q (.int r) H'
abbrev sFeed : Stmt := topS 39
abbrev sNext : Stmt := topS 40
abbrev nNext : List Str := ["_law_feed_here", "_law_many", "_law_digit", "_law_at", "_law_cell", "_law_first"]
theorem ints_dp {K : PySem.W.Frag} {H : Hp} : ∀ ms : List Int, DpAll K H (ms.map V.int) (ms.map PyData.int)
  | [] => .nil
  | m :: ms => .cons (.int m) (ints_dp ms)
theorem ints_lay : ∀ ms : List Int, PyData.canLayAll0 (ms.map PyData.int) = true ∧ PyData.depthAll (ms.map PyData.int) ≤ 4
  | [] => ⟨by simp [PyData.canLayAll0], by simp [PyData.depthAll]⟩
  | q :: qs => by
    obtain ⟨a, b⟩ := ints_lay qs
    refine ⟨by simp [PyData.canLayAll0, PyData.canLay0, a], ?_⟩
    have e3 : PyData.depthAll ((q :: qs).map PyData.int) = max (PyData.depth (.int q)) (PyData.depthAll (qs.map PyData.int)) := by simp [PyData.depthAll]
    have e4 : PyData.depth (.int q) = 0 := by simp [PyData.depth]
    omega
section
variable {P : Program} {w : World} {K : PySem.W.Frag} {mg : Str → Option Value} {base : Heap}
theorem scFd : FnScope ["_law_script"] ["_law_script"] (defScope sFeed) := ⟨rfl, rfl, rfl, by decide +kernel, rfl, by decide +kernel, by decide +kernel⟩
theorem ok_feed {f : Addr} {fd : FuncData} (A : At K mg "_law_feed" "_law_feed" sFeed f fd) (B : Blt mg) : FnOk P w K mg base CX0 1 f fd ["_law_script"] (spFeed K) := by
  refine A.F.ok scFd (fun vs H Q E h => ?_) (fun cdv A outer s H vs Q E hr h => ?_)
  · obtain ⟨a, ns, rfl, _⟩ := h
    rfl
  · obtain ⟨a, ns, rfl, hs, k⟩ := h
    refine ⟨_, pss_one (ps_ret (pe_lst (pa_cons (pe_callTy call_list_of (by rfl) B.list (by decide +kernel) (pa_cons (pe_slice sl_list (pv 0) po_none (po_some pe_int)) pa_nil)) (pa_cons pe_int (pa_cons pe_int pa_nil))))), ?_⟩
    refine ⟨_, rfl, _, rfl, a, _, rfl, hs, fun p np => ?_⟩
    have s1 := same_upd (o := .lst (cutV (ns.map V.int) none (some 63))) np
    refine ⟨p, _, rfl, .inl (SqL.of upd_same), fun l nl => ⟨(by show 3 ≤ sizeLine; decide), fun f nf => ?_⟩⟩
    have s2 := same_upd (o := .lst (cutV (ns.map V.int) none (some 63))) nl
    have s3 := same_upd (o := .lst [.ref l, .int 0, .int 0]) nf
    have nlf : l ≠ f := fun z => by rw [← z, upd_same] at nf; cases nf
    have ecut : ∃ ms : List Int, cutV (ns.map V.int) none (some 63) = ms.map V.int ∧ ms.length ≤ 63 := by
      have e1 : HT.sIx (ns.map V.int).length 0 none = 0 := rfl
      unfold cutV
      rw [e1]
      refine ⟨(ns.drop 0).take (HT.sIx (ns.map V.int).length (ns.map V.int).length (some 63) - 0), by rw [List.map_take, List.map_drop], ?_⟩
      rw [List.length_take]
      have e2 : HT.sIx (ns.map V.int).length (ns.map V.int).length (some 63) ≤ 63 := by
        show HT.sIx _ _ (some ((63 : Nat) : Int)) ≤ 63
        rw [HT.sIx_nat]
        exact Nat.min_le_left _ _
      omega
    obtain ⟨ms, em, lm⟩ := ecut
    exact k _ f l (s1.trans (s2.trans s3)) ⟨0, 0, ms, upd_same, s3 _ _ (by rw [upd_same, em]), Int.le_refl _, Int.le_refl _, lm, nlf⟩
theorem scNx : FnScope nNext ["_law_feed_here", "_law_many"] (defScope sNext) := ⟨rfl, rfl, rfl, by decide +kernel, rfl, by decide +kernel, by decide +kernel⟩
theorem ok_next {f : Addr} {fd : FuncData} (A : At K mg "_law_next" "_law_next" sNext f fd) (B : Blt mg) : FnOk P w K mg base CX0 1 f fd ["_law_feed_here", "_law_many"] (spNext K) := by
  refine A.F.ok scNx (fun vs H Q E h => ?_) (fun cdv A outer s H vs Q E hr h => ?_)
  · obtain ⟨fe, c, m, n, rfl, _⟩ := h
    rfl
  · obtain ⟨fe, c, m, n, rfl, m0, m30, ⟨at_, dg, ms, hf, hc, a0, an, lm, ncf⟩, n6, k⟩ := h
    refine ⟨_, pss_cons (ps_if (pt_cmpR op_gt (pe_ix ix_list (pv 0) pe_int (fun _ _ => rfl)) pe_int (nomark _))
        (pss_cons (ps_set (i := 2) scNx.nd rfl (Or.inl rfl) (pe_op op_mod (pe_ix ix_list (pv 0) pe_int (fun _ _ => rfl)) (pv 1)))
        (pss_cons (ps_asg (pe_op op_fdiv (pe_ix ix_list (pv 0) pe_int (fun _ _ => rfl)) (pv 1)) (pg_sub (pv 0) pe_int set_list))
        (pss_one (ps_ret (pv 2))))) pss_nil)
      (pss_cons (ps_set (i := 3) scNx.nd rfl (Or.inl rfl) (pe_ix ix_list (pv 0) pe_int (fun _ _ => rfl)))
      (pss_cons (ps_asg (pe_op op_add (pv 3) pe_int) (pg_sub (pv 0) pe_int set_list))
      (pss_cons (ps_set (i := 4) scNx.nd rfl (Or.inl rfl) (pe_ifExp (pt_cmpR (op_neD hr.units) (pe_ix ix_list (pv 0) pe_int (fun _ _ => rfl)) (pe_lst pa_nil) (nomark _))
        (pe_ix ix_list (pe_ix ix_list (pv 0) pe_int (fun _ _ => rfl)) (pe_op op_mod (pv 3) (pe_callB call_len_seq (by rfl) B.len PySem.boot_len (pa_cons (pe_ix ix_list (pv 0) pe_int (fun _ _ => rfl)) pa_nil))) (fun _ _ => rfl)) pe_int))
      (pss_cons (ps_if (PW.pt (pw_and (pt_cmpR op_ge (pv 4) (pe_op op_pow pe_int pe_int) (nomark _)) (pw_and1 (pt_cmpR op_lt (pv 3) (pe_callB call_len_seq (by rfl) B.len PySem.boot_len (pa_cons (pe_ix ix_list (pv 0) pe_int (fun _ _ => rfl)) pa_nil)) (nomark _)))))
        (pss_cons (ps_asg (pe_op op_fdiv (pv 4) (pv 1)) (pg_sub (pv 0) pe_int set_list))
        (pss_one (ps_ret (pe_op op_mod (pv 4) (pv 1))))) pss_nil)
      (pss_cons (ps_set (i := 5) scNx.nd rfl (Or.inl rfl) (pe_op op_mod (pe_op op_mul (pe_op op_add (pe_op op_add (pe_op op_add (pe_op op_mod (pv 4) pe_int) (pe_op op_mul (pe_op op_mul pe_int (pv 3)) (pv 3))) (pe_op op_mul pe_int (pv 3))) pe_int) pe_int) pe_int))
      (pss_one (ps_ret (pe_op op_mod (pe_op op_fdiv (pe_op op_mod (pe_op op_mul (pe_op op_add (pv 5) (pe_op op_mul pe_int (pv 3))) pe_int) pe_int) pe_int) (pv 1))))))))), ?_⟩
    have rng : ∀ x : Int, 0 ≤ x % m ∧ x % m < m := fun x => ⟨Int.emod_nonneg _ (by omega), Int.emod_lt_of_pos _ m0⟩
    have smallat : at_ ≤ 1000000 := by omega
    refine ⟨_, rfl, fe, _, _, _, rfl, rfl, SqL.of hf, rfl, _, _, rfl, rfl, _, rfl, ?_⟩
    refine ite2 (fun _ => ?_) (fun _ => ?_)
    · -- a digit is left
      refine ⟨_, rfl, fe, _, _, _, rfl, rfl, SqL.of hf, rfl, _, rfl, _, _, rfl, rfl, m0, ?_⟩
      refine ⟨_, rfl, fe, _, _, _, rfl, rfl, SqL.of hf, rfl, _, rfl, _, _, rfl, rfl, ⟨m0, m30⟩, _, rfl, fe, _, _, 2, rfl, rfl, hf, rfl, ?_⟩
      refine ⟨_, rfl, k _ _ (rng dg).1 (rng dg).2 But.set ⟨at_, _, ms, upd_same, But.set _ _ hc ncf, a0, by omega, lm, ncf⟩⟩
    · refine ⟨_, rfl, fe, _, _, _, rfl, rfl, SqL.of hf, rfl, ?_⟩
      refine ⟨_, rfl, _, _, rfl, rfl, _, rfl, fe, _, _, 1, rfl, rfl, hf, rfl, ?_⟩
      have hf1 : (upd H fe (.lst ([V.ref c, .int at_, .int dg].set 1 (.int (at_ + 1))))) fe = some (.lst [.ref c, .int (at_ + 1), .int dg]) := upd_same
      have b1 : But fe H (upd H fe (.lst ([V.ref c, .int at_, .int dg].set 1 (.int (at_ + 1))))) := But.set
      generalize upd H fe (.lst ([V.ref c, .int at_, .int dg].set 1 (.int (at_ + 1)))) = H1 at hf1 b1
      have hc1 := b1 _ _ hc ncf
      refine ⟨_, rfl, fe, _, _, _, rfl, rfl, SqL.of hf1, rfl, (by show 0 ≤ sizeLine; decide), fun e ne => ?_⟩
      have s2 : Same H1 (upd H1 e (.lst [])) := same_upd ne
      refine ⟨.list (ms.map PyData.int), .list [], .lst (SqL.of (s2 _ _ hc1)) (ints_dp ms), .lst (SqL.of upd_same) .nil, list_shaped (ints_lay ms), void_shaped, _, rfl, ?_⟩
      rw [eqv_void]
      generalize upd H1 e (.lst []) = H2 at s2
      have hf2 := s2 _ _ hf1
      have hc2 := s2 _ _ hc1
      have b2 : But fe H H2 := b1.trans (But.of s2)
      have q1 : (0 : Int) < 1000003 := by decide
      have q2 : (0 : Int) < 999917 := by decide
      have q3 : (0 : Int) < 2097143 := by decide
      refine ite2 (fun z => ?a) (fun z => ?b)
      case' a =>
        have nz : ms ≠ [] := fun e => by rw [e] at z; simp at z
        have lpos : 0 < ms.length := List.length_pos_iff.mpr nz
        have lpos2 : (0 : Int) < ((ms.map V.int).length : Int) := by rw [List.length_map]; omega
        obtain ⟨j, hj⟩ : ∃ j : Nat, at_ % ((ms.map V.int).length : Int) = (j : Int) := ⟨_, (Int.toNat_of_nonneg (Int.emod_nonneg _ (by omega))).symm⟩
        have hj2 : (j : Int) < ms.length := by
          have q := Int.emod_lt_of_pos at_ lpos2
          rw [hj] at q
          rw [List.length_map] at q
          exact q
        obtain ⟨x, hx⟩ : ∃ x, ms[j]? = some x := ⟨_, List.getElem?_eq_getElem (by omega)⟩
        refine ⟨_, rfl, fe, _, _, _, rfl, rfl, SqL.of hf2, rfl, _, rfl, _, rfl, fe, _, _, _, rfl, rfl, SqL.of hf2, rfl, c, _, rfl, .inl (SqL.of hc2), _, _, rfl, rfl, lpos2, c, _, _, .int x, rfl, rfl, SqL.of hc2, (by rw [hj]; exact atI_nat (by rw [List.getElem?_map, hx]; rfl)), ?_⟩
      all_goals
        refine ⟨_, rfl, _, _, rfl, rfl, ⟨by decide, by decide, by decide⟩, _, _, rfl, rfl, _, rfl, ?_⟩
        refine ite2 (fun z1 => ?_) (fun z1 => iteF ?_)
      all_goals
        first
          | (refine ⟨_, rfl, _, rfl, fe, _, _, _, rfl, rfl, SqL.of hf2, rfl, c, _, rfl, .inl (SqL.of hc2), _, _, rfl, rfl, _, rfl, ?_⟩
             refine ite2 (fun z2 => ?_) (fun z2 => ?_))
          | skip
      all_goals
        first
          | (refine ⟨_, rfl, _, rfl, _, _, rfl, rfl, ⟨m0, m30⟩, _, rfl, fe, _, _, 2, rfl, rfl, hf2, rfl, ?_⟩
             refine ⟨_, rfl, _, rfl, _, _, rfl, rfl, m0, ?_⟩
             exact k _ _ (rng _).1 (rng _).2 (b2.trans But.set) ⟨at_ + 1, _, ms, upd_same, But.set _ _ hc2 ncf, by omega, by omega, lm, ncf⟩)
          | skip
      all_goals
        refine ⟨_, rfl, _, _, rfl, rfl, q1, _, rfl, _, _, rfl, rfl, .inl ⟨by decide, by decide⟩, _, rfl, _, _, rfl, rfl, .inr ⟨by omega, by omega⟩, _, _, rfl, rfl, _, rfl, _, _, rfl, rfl, .inl ⟨by decide, by decide⟩, _, _, rfl, rfl, _, _, rfl, rfl, _, _, rfl, rfl, .inr ⟨by decide, by decide⟩, _, _, rfl, rfl, q2, ?_⟩
        refine ⟨_, rfl, _, rfl, _, _, rfl, rfl, .inl ⟨by decide, by decide⟩, _, _, rfl, rfl, _, _, rfl, rfl, .inr ⟨by decide, by decide⟩, _, _, rfl, rfl, q3, _, _, rfl, rfl, ⟨by decide, by decide⟩, _, rfl, _, _, rfl, rfl, m0, ?_⟩
        exact k _ _ (rng _).1 (rng _).2 b2 ⟨at_ + 1, dg, ms, hf2, hc2, by omega, by omega, lm, ncf⟩
end
end L2.T
set_option maxHeartbeats 2000000
namespace L2.T
open PySem PySem.Spec PyProof.Rows
open PySem.W (dataLt dataLe alike AllAlike Sortable EachIs)
open Thin
def spNames (K : PySem.W.Frag) : Sp := fun vs H Q _ => vs = [] ∧ ∀ (H' : Hp) (p : Addr), Same H H' → H' p = some (.lst (pool.map V.str)) → Q (.ref p) H'
def spTimes (K : PySem.W.Frag) : Sp := fun vs H Q _ => ∃ (f cc : Addr) (n : Nat), vs = [.ref f] ∧ FeedAt K cc H f n ∧ n ≤ 1000000 ∧ ∀ (H' : Hp) (v : V), But f H H' → FeedAt K cc H' f (n + 1) → Times K H' v → Q v H'
def spPair (K : PySem.W.Frag) : Sp := fun vs H Q _ => ∃ a b : Str, vs = [.str a, .str b] ∧ ∀ (H' : Hp) (q : Addr), Same H H' → H' q = some (.tup [.str (mnS a b), .str (mxS a b)]) → Q (.ref q) H'
abbrev sNames : Stmt := topS 41
abbrev sTimes : Stmt := topS 43
abbrev sPair : Stmt := topS 45
theorem FeedAt.same {K : PySem.W.Frag} {cc : Addr} {H H' : Hp} {f : Addr} {n : Nat} (e : Same H H') (h : FeedAt K cc H f n) : FeedAt K cc H' f n := h.but e
section
variable {P : Program} {w : World} {K : PySem.W.Frag} {mg : Str → Option Value} {base : Heap}
theorem scNs : FnScope ["_law_names_here"] [] (defScope sNames) := ⟨rfl, rfl, rfl, by decide +kernel, rfl, by decide +kernel, by decide +kernel⟩
theorem ok_names {f : Addr} {fd : FuncData} (A : At K mg "_law_names" "_law_names" sNames f fd) : FnOk P w K mg base CX0 1 f fd [] (spNames K) := by
  refine A.F.ok scNs (fun vs H Q E h => ?_) (fun cdv A outer s H vs Q E hr h => ?_)
  · obtain ⟨rfl, _⟩ := h
    rfl
  · obtain ⟨rfl, k⟩ := h
    refine ⟨_, pss_cons (ps_set (i := 0) scNs.nd rfl (Or.inl rfl) (pe_lst (pa_cons pe_str (pa_cons pe_str (pa_cons pe_str (pa_cons pe_str (pa_cons pe_str (pa_cons pe_str (pa_cons pe_str (pa_cons pe_str (pa_cons pe_str (pa_cons pe_str (pa_cons pe_str (pa_cons pe_str (pa_cons pe_str (pa_cons pe_str (pa_cons pe_str (pa_cons pe_str (pa_cons pe_str pa_nil)))))))))))))))))))
      (pss_one (ps_ret (pe_op op_cat (pv 0) (pe_lst (pa_cons pe_str (pa_cons pe_str (pa_cons pe_str (pa_cons pe_str (pa_cons pe_str (pa_cons pe_str (pa_cons pe_str (pa_cons pe_str (pa_cons pe_str pa_nil))))))))))))), ?_⟩
    refine ⟨(by show 17 ≤ sizeLine; decide), fun a na => ⟨_, rfl, (by show 9 ≤ sizeLine; decide), fun b nb => ?_⟩⟩
    refine ⟨a, b, _, _, rfl, rfl, same_upd nb _ _ upd_same, upd_same, (by show 26 ≤ sizeLine; decide), fun p np => ?_⟩
    exact k _ p ((same_upd na).trans ((same_upd nb).trans (same_upd np))) upd_same
theorem scTi : FnScope ["_law_feed_here", "_law_some"] ["_law_feed_here"] (defScope sTimes) := ⟨rfl, rfl, rfl, by decide +kernel, rfl, by decide +kernel, by decide +kernel⟩
theorem ok_times {f fX : Addr} {fd fdX : FuncData} (A : At K mg "_law_times" "_law_times" sTimes f fd) (X : At K mg "_law_next" "_law_next" sNext fX fdX) (bX : Binds K fdX ["_law_feed_here", "_law_many"] []) (GX : FnOk P w K mg base CX0 1 fX fdX ["_law_feed_here", "_law_many"] (spNext K)) :
    FnOk P w K mg base CX0 2 f fd ["_law_feed_here"] (spTimes K) := by
  refine A.F.ok scTi (fun vs H Q E h => ?_) (fun cdv A outer s H vs Q E hr h => ?_)
  · obtain ⟨fe, cc, n, rfl, _⟩ := h
    rfl
  · obtain ⟨fe, cc, n, rfl, hF, nsm, k⟩ := h
    refine ⟨_, pss_cons (ps_set (i := 1) scTi.nd rfl (Or.inl rfl) (pe_lst (pa_cons (pe_tup (pa_cons pe_int (pa_cons pe_int pa_nil))) (pa_cons (pe_tup (pa_cons pe_int (pa_cons pe_int pa_nil))) (pa_cons (pe_tup (pa_cons pe_int (pa_cons pe_int pa_nil))) (pa_cons (pe_tup (pa_cons pe_int (pa_cons pe_int pa_nil))) (pa_cons (pe_tup (pa_cons pe_int (pa_cons pe_int pa_nil))) (pa_cons (pe_tup (pa_cons pe_int (pa_cons pe_int pa_nil))) (pa_cons (pe_tup (pa_cons (pe_op op_pow pe_int pe_int) (pa_cons pe_int pa_nil))) (pa_cons (pe_tup (pa_cons pe_int (pa_cons pe_int pa_nil))) pa_nil))))))))))
      (pss_one (ps_ret (pe_ix ix_list (pv 1) (pe_call GX hr (by rfl) X.g X.F.kp bX .nil pass0 (pa_cons (pv 0) (pa_cons pe_int pa_nil))) (fun _ _ => rfl)))), ?_⟩
    refine ⟨(by show 2 ≤ sizeLine; decide), fun q0 n0 => ?_⟩
    refine ⟨(by show 2 ≤ sizeLine; decide), fun q1 n1 => ?_⟩
    refine ⟨(by show 2 ≤ sizeLine; decide), fun q2 n2 => ?_⟩
    refine ⟨(by show 2 ≤ sizeLine; decide), fun q3 n3 => ?_⟩
    refine ⟨(by show 2 ≤ sizeLine; decide), fun q4 n4 => ?_⟩
    refine ⟨(by show 2 ≤ sizeLine; decide), fun q5 n5 => ?_⟩
    refine ⟨_, _, rfl, rfl, ⟨by decide, by decide, by decide⟩, (by show 2 ≤ sizeLine; decide), fun q6 n6 => ?_⟩
    refine ⟨(by show 2 ≤ sizeLine; decide), fun q7 n7 => ?_⟩
    refine ⟨(by show 8 ≤ sizeLine; decide), fun l nl => ?_⟩
    have t0 := same_upd (o := .tup [.int 1, .int 1]) n0
    have t1 := same_upd (o := .tup [.int 3, .int 2]) n1
    have t2 := same_upd (o := .tup [.int 2, .int 1]) n2
    have t3 := same_upd (o := .tup [.int 3, .int 1]) n3
    have t4 := same_upd (o := .tup [.int 5, .int 2]) n4
    have t5 := same_upd (o := .tup [.int 1000, .int 999]) n5
    have t6 := same_upd (o := .tup [.int ((10 : Int) ^ (6 : Int).toNat), .int 1]) n6
    have t7 := same_upd (o := .tup [.int 2, .int 2]) n7
    have tl := same_upd (o := .lst [.ref q0, .ref q1, .ref q2, .ref q3, .ref q4, .ref q5, .ref q6, .ref q7]) nl
    have T0 := seqT_same (K := K) (t1.trans (t2.trans (t3.trans (t4.trans (t5.trans (t6.trans (t7.trans (tl)))))))) (SqT.of upd_same)
    have T1 := seqT_same (K := K) (t2.trans (t3.trans (t4.trans (t5.trans (t6.trans (t7.trans (tl))))))) (SqT.of upd_same)
    have T2 := seqT_same (K := K) (t3.trans (t4.trans (t5.trans (t6.trans (t7.trans (tl)))))) (SqT.of upd_same)
    have T3 := seqT_same (K := K) (t4.trans (t5.trans (t6.trans (t7.trans (tl))))) (SqT.of upd_same)
    have T4 := seqT_same (K := K) (t5.trans (t6.trans (t7.trans (tl)))) (SqT.of upd_same)
    have T5 := seqT_same (K := K) (t6.trans (t7.trans (tl))) (SqT.of upd_same)
    have T6 := seqT_same (K := K) (t7.trans (tl)) (SqT.of upd_same)
    have T7 := seqT_same (K := K) (tl) (SqT.of upd_same)
    have s := t0.trans (t1.trans (t2.trans (t3.trans (t4.trans (t5.trans (t6.trans (t7.trans (tl))))))))
    have hl := upd_same (H := upd (upd (upd (upd (upd (upd (upd (upd H q0 (.tup [.int 1, .int 1])) q1 (.tup [.int 3, .int 2])) q2 (.tup [.int 2, .int 1])) q3 (.tup [.int 3, .int 1])) q4 (.tup [.int 5, .int 2])) q5 (.tup [.int 1000, .int 999])) q6 (.tup [.int ((10 : Int) ^ (6 : Int).toNat), .int 1])) q7 (.tup [.int 2, .int 2])) (a := l) (o := .lst [.ref q0, .ref q1, .ref q2, .ref q3, .ref q4, .ref q5, .ref q6, .ref q7])
    generalize upd (upd (upd (upd (upd (upd (upd (upd (upd H q0 (.tup [.int 1, .int 1])) q1 (.tup [.int 3, .int 2])) q2 (.tup [.int 2, .int 1])) q3 (.tup [.int 3, .int 1])) q4 (.tup [.int 5, .int 2])) q5 (.tup [.int 1000, .int 999])) q6 (.tup [.int ((10 : Int) ^ (6 : Int).toNat), .int 1])) q7 (.tup [.int 2, .int 2])) l (.lst [.ref q0, .ref q1, .ref q2, .ref q3, .ref q4, .ref q5, .ref q6, .ref q7]) = Hl at T0 T1 T2 T3 T4 T5 T6 T7 s hl
    have hF2 := hF.same s
    obtain ⟨at_, dg, ms, hf, _⟩ := id hF2
    have nlf : l ≠ fe := fun z => by
      rw [z, hf] at hl
      have e := Option.some.inj hl
      injection e with e
      have e2 := congrArg List.length e
      simp at e2
    refine ⟨_, rfl, _, rfl, fe, cc, 8, n, rfl, by decide, by decide, hF2, nsm, fun H' r r0 r8 b F' => ?_⟩
    have tk : TupK Hl H' := TupK.but b (by rw [hf]; exact True.intro)
    have b0 : But fe H H' := (But.of s).trans b
    have cases8 : r = 0 ∨ r = 1 ∨ r = 2 ∨ r = 3 ∨ r = 4 ∨ r = 5 ∨ r = 6 ∨ r = 7 := by omega
    rcases cases8 with rfl | rfl | rfl | rfl | rfl | rfl | rfl | rfl
    · exact ⟨l, _, _, .ref q0, rfl, rfl, SqL.of (b _ _ hl nlf), rfl, k H' _ b0 F' ⟨q0, _, _, rfl, tk.seq T0, by decide, by decide, by decide, by decide⟩⟩
    · exact ⟨l, _, _, .ref q1, rfl, rfl, SqL.of (b _ _ hl nlf), rfl, k H' _ b0 F' ⟨q1, _, _, rfl, tk.seq T1, by decide, by decide, by decide, by decide⟩⟩
    · exact ⟨l, _, _, .ref q2, rfl, rfl, SqL.of (b _ _ hl nlf), rfl, k H' _ b0 F' ⟨q2, _, _, rfl, tk.seq T2, by decide, by decide, by decide, by decide⟩⟩
    · exact ⟨l, _, _, .ref q3, rfl, rfl, SqL.of (b _ _ hl nlf), rfl, k H' _ b0 F' ⟨q3, _, _, rfl, tk.seq T3, by decide, by decide, by decide, by decide⟩⟩
    · exact ⟨l, _, _, .ref q4, rfl, rfl, SqL.of (b _ _ hl nlf), rfl, k H' _ b0 F' ⟨q4, _, _, rfl, tk.seq T4, by decide, by decide, by decide, by decide⟩⟩
    · exact ⟨l, _, _, .ref q5, rfl, rfl, SqL.of (b _ _ hl nlf), rfl, k H' _ b0 F' ⟨q5, _, _, rfl, tk.seq T5, by decide, by decide, by decide, by decide⟩⟩
    · exact ⟨l, _, _, .ref q6, rfl, rfl, SqL.of (b _ _ hl nlf), rfl, k H' _ b0 F' ⟨q6, _, _, rfl, tk.seq T6, by decide, by decide, by decide, by decide⟩⟩
    · exact ⟨l, _, _, .ref q7, rfl, rfl, SqL.of (b _ _ hl nlf), rfl, k H' _ b0 F' ⟨q7, _, _, rfl, tk.seq T7, by decide, by decide, by decide, by decide⟩⟩
theorem scPr : FnScope ["_law_a", "_law_b"] ["_law_a", "_law_b"] (defScope sPair) := ⟨rfl, rfl, rfl, by decide +kernel, rfl, by decide +kernel, by decide +kernel⟩
theorem ok_pair {f : Addr} {fd : FuncData} (A : At K mg "_law_pair" "_law_pair" sPair f fd) (B : Blt mg) : FnOk P w K mg base CX0 1 f fd ["_law_a", "_law_b"] (spPair K) := by
  refine A.F.ok scPr (fun vs H Q E h => ?_) (fun cdv A outer s H vs Q E hr h => ?_)
  · obtain ⟨a, b, rfl, _⟩ := h
    rfl
  · obtain ⟨a, b, rfl, k⟩ := h
    refine ⟨_, pss_one (ps_ret (pe_tup (pa_cons (pe_callB (call_minS rfl) (by rfl) B.min (by decide +kernel) (pa_cons (pv 0) (pa_cons (pv 1) pa_nil)))
        (pa_cons (pe_callB (call_maxS rfl) (by rfl) B.max (by decide +kernel) (pa_cons (pv 0) (pa_cons (pv 1) pa_nil))) pa_nil)))), ?_⟩
    refine ⟨_, rfl, _, rfl, _, _, rfl, _, rfl, _, rfl, _, _, rfl, (by show 2 ≤ sizeLine; decide), fun q nq => ?_⟩
    exact k _ q (same_upd nq) upd_same
end
end L2.T
set_option maxHeartbeats 2000000
namespace L2.T
open PySem PySem.Spec PyProof.Rows
open PySem.W (dataLt dataLe alike AllAlike Sortable EachIs)
open Thin
/-! ### names drawn by steps -/
def nth (k : Nat) : Str := pool.getD k Str.empty
theorem nth_at {k : Nat} (h : k < 26) : pool[k]? = some (nth k) := by
  have l : k < pool.length := by rw [pool_len]; exact h
  unfold nth
  rw [List.getElem?_eq_getElem l, List.getD_eq_getElem?_getD, List.getElem?_eq_getElem l]
  rfl
theorem nth_in {k : Nat} (h : k < 26) : nth k ∈ pool := List.mem_of_getElem? (nth_at h)
theorem nth_inj {i j : Nat} (hi : i < 26) (hj : j < 26) (e : nth i = nth j) : i = j := by
  have a := nth_at hi
  have b := nth_at hj
  rw [e] at a
  have li : i < pool.length := by rw [pool_len]; exact hi
  have lj : j < pool.length := by rw [pool_len]; exact hj
  rw [List.getElem?_eq_getElem li] at a
  rw [List.getElem?_eq_getElem lj] at b
  exact (List.getElem_inj pool_nd).mp ((Option.some.inj a).trans (Option.some.inj b).symm)
theorem walk_nd : ∀ a < 26, ∀ s ∈ ([1, 3, 5, 7] : List Nat), ((List.range 24).map fun k => (a + s * k) % 26).Nodup := by decide +kernel
def picks (a s m : Nat) : List Str := (List.range m).map fun k => nth ((a + s * k) % 26)
theorem picks_len (a s m : Nat) : (picks a s m).length = m := by simp [picks]
theorem picks_in {a s m : Nat} : ∀ p ∈ picks a s m, p ∈ pool := fun p hp => by
  obtain ⟨k, _, rfl⟩ := List.mem_map.mp hp
  exact nth_in (Nat.mod_lt _ (by decide))
theorem picks_nd {a s m : Nat} (ha : a < 26) (hs : s ∈ ([1, 3, 5, 7] : List Nat)) (hm : m ≤ 24) : (picks a s m).Nodup := by
  have h := walk_nd a ha s hs
  have h2 : (List.range 24).Pairwise fun i j => (a + s * i) % 26 ≠ (a + s * j) % 26 := List.pairwise_map.mp h
  have sub : (List.range m).Sublist (List.range 24) := List.range_sublist.mpr hm
  refine List.pairwise_map.mpr ((h2.sublist sub).imp fun {i j} q e => q ?_)
  exact nth_inj (Nat.mod_lt _ (by decide)) (Nat.mod_lt _ (by decide)) e
theorem step_at {r : Int} (h0 : 0 ≤ r) (h4 : r < 4) : ∃ s : Nat, s ∈ ([1, 3, 5, 7] : List Nat) ∧ atI [V.int 1, V.int 3, V.int 5, V.int 7] r = some (.int (s : Int)) := by
  have c : r = 0 ∨ r = 1 ∨ r = 2 ∨ r = 3 := by omega
  rcases c with rfl | rfl | rfl | rfl
  · exact ⟨1, by decide, rfl⟩
  · exact ⟨3, by decide, rfl⟩
  · exact ⟨5, by decide, rfl⟩
  · exact ⟨7, by decide, rfl⟩
theorem walk_at {a s : Nat} (hs : s ∈ ([1, 3, 5, 7] : List Nat)) (i : Nat) : ((a : Int) + (s : Int) * ((0 : Int) + (i : Int))) % 26 = (((a + s * i) % 26 : Nat) : Int) := by
  have e : (a : Int) + (s : Int) * ((0 : Int) + (i : Int)) = ((a + s * i : Nat) : Int) := by
    rw [Int.zero_add, Int.natCast_add, Int.natCast_mul]
  rw [e]
  rfl
def spPlaces (K : PySem.W.Frag) : Sp := fun vs H Q _ => ∃ (f cc : Addr) (m n : Nat), vs = [.ref f, .int m] ∧ m ≤ 24 ∧ FeedAt K cc H f n ∧ n ≤ 900000 ∧
  ∀ (H' : Hp) (t : Addr) (ps : List Str), But f H H' → FeedAt K cc H' f (n + 2) → H' t = some (.tup (ps.map V.str)) → ps.Pairwise sLt → (∀ p ∈ ps, p ∈ pool) → ps.length = m → Q (.ref t) H'
abbrev sPlaces : Stmt := topS 42
abbrev nPl : List Str := ["_law_feed_here", "_law_many", "_law_names_here", "_law_at", "_law_step", "_law_k"]
section
variable {P : Program} {w : World} {K : PySem.W.Frag} {mg : Str → Option Value} {base : Heap}
theorem scPl : FnScope nPl ["_law_feed_here", "_law_many"] (defScope sPlaces) := ⟨rfl, rfl, rfl, by decide +kernel, rfl, by decide +kernel, by decide +kernel⟩
theorem ok_places {f fX fN : Addr} {fd fdX fdN : FuncData} (A : At K mg "_law_places" "_law_places" sPlaces f fd) (X : At K mg "_law_next" "_law_next" sNext fX fdX) (bX : Binds K fdX ["_law_feed_here", "_law_many"] []) (GX : FnOk P w K mg base CX0 1 fX fdX ["_law_feed_here", "_law_many"] (spNext K))
    (N : At K mg "_law_names" "_law_names" sNames fN fdN) (bN : Binds K fdN [] []) (B : Blt mg) : FnOk P w K mg base CX0 2 f fd ["_law_feed_here", "_law_many"] (spPlaces K) := by
  have GN : FnOk P w K mg base CX0 1 fN fdN [] (spNames K) := ok_names N
  refine A.F.ok scPl (fun vs H Q E h => ?_) (fun cdv A outer s H vs Q E hr h => ?_)
  · obtain ⟨fe, cc, m, n, rfl, _⟩ := h
    rfl
  · obtain ⟨fe, cc, m, n, rfl, m24, hF, nsm, k⟩ := h
    refine ⟨_, pss_cons (ps_set (i := 2) scPl.nd rfl (Or.inr rfl) (pe_call0 GN hr (by rfl) N.g N.F.kp bN .nil pass0))
      (pss_cons (ps_set (i := 3) scPl.nd rfl (Or.inr rfl) (pe_call GX hr (by rfl) X.g X.F.kp bX .nil pass0 (pa_cons (pv 0) (pa_cons pe_int pa_nil))))
      (pss_cons (ps_set (i := 4) scPl.nd rfl (Or.inr rfl) (pe_ix ix_list (pe_lst (pa_cons pe_int (pa_cons pe_int (pa_cons pe_int (pa_cons pe_int pa_nil))))) (pe_call GX hr (by rfl) X.g X.F.kp bX .nil pass0 (pa_cons (pv 0) (pa_cons pe_int pa_nil))) (fun _ _ => rfl)))
      (pss_one (ps_ret (pe_callTy call_tuple_of (by rfl) B.tuple (by decide +kernel) (pa_cons (pe_callB (cr_sortD hr.units) (by rfl) B.sorted (by decide +kernel) (pa_cons
        (pe_lc (own := [("_law_k", 5)]) (g := gName 5) (by rfl) scPl.nd (pi_range1 (by rfl) B.range (pa_cons (pv 1) pa_nil)) (blkOk_by (N := nPl) (sc := defScope sPlaces) (by decide +kernel)) (fun _ _ _ _ _ => pg_name (i := 5) scPl.nd rfl (Or.inl rfl)) (fun _ _ _ _ _ => pts_nil)
          (fun _ _ _ _ _ => pe_ix (r := rIxL K) ix_list (pv 2) (pe_op op_mod (pe_op op_add (pv 3) (pe_op op_mul (pv 4) (pv 5))) pe_int) (fun _ _ => rfl))) pa_nil)) pa_nil)))))), ?_⟩
    refine ⟨rfl, fun H1 pl s1 hpl => ?_⟩
    have hF1 := hF.same s1
    obtain ⟨_, _, _, hf1, _⟩ := id hF1
    have npl : pl ≠ fe := fun z => by
      rw [z, hf1] at hpl
      have e := Option.some.inj hpl
      injection e with e
      have e2 := congrArg List.length e
      rw [List.length_map, pool_len] at e2
      cases e2
    refine ⟨_, rfl, fe, cc, 26, n, rfl, by decide, by decide, hF1, by omega, fun H2 a a0 a26 b2 F2 => ?_⟩
    refine ⟨(by show 4 ≤ sizeLine; decide), fun q nq => ?_⟩
    have s3 : Same H2 (upd H2 q (.lst [.int 1, .int 3, .int 5, .int 7])) := same_upd nq
    obtain ⟨_, _, _, hf2, _⟩ := id F2
    have nqf : q ≠ fe := (ne_of_none hf2 nq).symm
    refine ⟨_, rfl, fe, cc, 4, n + 1, rfl, by decide, by decide, F2.same s3, by omega, fun H3 r r0 r4 b3 F3 => ?_⟩
    obtain ⟨sN, hs, es⟩ := step_at r0 r4
    refine ⟨q, _, _, _, rfl, rfl, SqL.of (b3 _ _ upd_same nqf), es, ?_⟩
    have b13 : But fe H1 H3 := b2.trans ((But.of s3).trans b3)
    have hpl3 := b13 _ _ hpl npl
    obtain ⟨aN, rfl⟩ : ∃ aN : Nat, a = (aN : Int) := ⟨a.toNat, (Int.toNat_of_nonneg a0).symm⟩
    have sbig : (sN : Int) ≤ 7 := by
      simp only [List.mem_cons, List.not_mem_nil, or_false] at hs
      omega
    refine ⟨_, rfl, _, rfl, by omega, by omega, fun D nD => ?_⟩
    rw [Int.toNat_natCast]
    refine lc_range (lo := 0) (n := m) (fun i H4 => Same H3 H4 ∧ H4 D = some (.lst ((picks aN sN i).map V.str))) ⟨same_upd nD, upd_same⟩ ?_ ?_
    · rintro i H4 hi ⟨s4, hD⟩
      refine ⟨rfl, yes_of (iteT ?_)⟩
      have em := walk_at (a := aN) hs i
      refine ⟨_, rfl, _, rfl, _, rfl, _, rfl, _, _, rfl, rfl, .inl ⟨by omega, by omega⟩, _, _, rfl, rfl, _, _, rfl, rfl, (by decide : (0 : Int) < 26), pl, _, _, .str (nth ((aN + sN * i) % 26)), rfl, rfl, SqL.of (s4 _ _ hpl3), (by rw [em]; exact atI_nat (by rw [List.getElem?_map, nth_at (Nat.mod_lt _ (by decide))]; rfl)), ?_⟩
      refine ⟨_, hD, small1000 (by rw [List.length_map, picks_len]; omega), fun b o e => ?_, ?_⟩
      · rw [upd_ne (ne_of_none e nD)]
        exact s4 _ _ e
      · rw [upd_same]
        unfold picks
        rw [List.range_succ, List.map_append, List.map_append]
        rfl
    · rintro H4 ⟨s4, hD⟩
      refine ⟨Str, D, _, picks aN sN m, PyData.str, rfl, .inl (SqL.of hD), strs_dp _, str_alike _, str_sortable _, fun b _ => str_depth b, fun q2 zs cs nq2 pm up dd => ?_⟩
      have s5 : Same H4 (upd H4 q2 (.lst zs)) := same_upd nq2
      refine ⟨q2, zs, rfl, .inl ⟨SqL.of upd_same, fun l nl => ?_⟩⟩
      have s6 := same_upd (o := .tup zs) nl
      have ez := dp_strs dd
      have sl := s4.trans (s5.trans s6)
      have up2 : cs.Pairwise fun x y => ¬ sLt y x := up.imp fun {x y} z => by
        rw [Thin.lt_str] at z
        exact of_decide_eq_false z
      have nd : cs.Nodup := pm.symm.nodup_iff.mp (picks_nd (by omega) hs m24)
      exact k _ l cs ((But.of s1).trans (b13.trans (But.of sl))) (F3.same sl) (by rw [upd_same, ez]) (asc_strict (fun a b => sLt_tri) (fun a b => inferInstance) up2 nd) (fun p hp => picks_in p (pm.mem_iff.mp hp)) (by rw [pm.length_eq, picks_len])
end
end L2.T
set_option maxHeartbeats 2000000
namespace L2.T
open PySem PySem.Spec PyProof.Rows
open PySem.W (dataLt dataLe alike AllAlike Sortable EachIs)
open Thin
/-! ### the law's own net in the heap -/
def stK (L T : Addr) : List (Key × V) := [(Sum.inr "places", .ref L), (Sum.inr "ties", .ref T)]
theorem st_ne : ¬ (("places" : Str) = "ties") := by decide +kernel
theorem st_pl (L T : Addr) : valV (stK L T) (Sum.inr "places" : Key) = some (.ref L) := valV_pos rfl
theorem st_ti (L T : Addr) : valV (stK L T) (Sum.inr "ties" : Key) = some (.ref T) := by
  unfold stK
  rw [valV_neg (fun z => by injection z with z; exact st_ne z)]
  exact valV_pos rfl
structure StateAt (H : Hp) (D L T : Addr) (lps : List Str) (es : List Tie) : Prop where
  d : H D = some (.dK (stK L T))
  l : H L = some (.lst (lps.map V.str))
  t : H T = some (.dT (tab es))
theorem StateAt.same {H H' : Hp} {D L T : Addr} {lps : List Str} {es : List Tie} (e : Same H H') (s : StateAt H D L T lps es) : StateAt H' D L T lps es := ⟨e _ _ s.d, e _ _ s.l, e _ _ s.t⟩
theorem StateAt.ne1 {H : Hp} {D L T : Addr} {lps : List Str} {es : List Tie} (s : StateAt H D L T lps es) : L ≠ T := ne_of s.l s.t (fun z => nomatch z)
theorem StateAt.ne2 {H : Hp} {D L T : Addr} {lps : List Str} {es : List Tie} (s : StateAt H D L T lps es) : D ≠ L := ne_of s.d s.l (fun z => nomatch z)
theorem StateAt.ne3 {H : Hp} {D L T : Addr} {lps : List Str} {es : List Tie} (s : StateAt H D L T lps es) : D ≠ T := ne_of s.d s.t (fun z => nomatch z)
theorem StateAt.but {H H' : Hp} {D L T p : Addr} {lps : List Str} {es : List Tie} (e : But p H H') (s : StateAt H D L T lps es) (n1 : D ≠ p) (n2 : L ≠ p) (n3 : T ≠ p) : StateAt H' D L T lps es := ⟨e _ _ s.d n1, e _ _ s.l n2, e _ _ s.t n3⟩
def unkk : List Key → Str × Str
  | [Sum.inr a, Sum.inr b] => (a, b)
  | _ => (Str.empty, Str.empty)
theorem unkk_kk (k : Str × Str) : unkk (kk k) = k := rfl
theorem tab_keys (es : List Tie) : (tab es).map (·.1) = (es.map pk).map kk := by
  rw [List.map_map, List.map_map]
  rfl
theorem keys_back {cs : List (List Key)} {l : List (Str × Str)} (p : cs.Perm (l.map kk)) : ∃ ks : List (Str × Str), cs = ks.map kk ∧ ks.Perm l := by
  refine ⟨cs.map unkk, ?_, ?_⟩
  · have e : ∀ c ∈ cs, kk (unkk c) = c := fun c hc => by
      obtain ⟨k, _, rfl⟩ := List.mem_map.mp (p.mem_iff.mp hc)
      rfl
    rw [List.map_map]
    have q : cs.map (kk ∘ unkk) = cs.map id := List.map_congr_left fun c hc => e c hc
    rw [q, List.map_id]
  · have q := p.map unkk
    rw [List.map_map] at q
    have e : l.map (unkk ∘ kk) = l := by
      have e2 : l.map (unkk ∘ kk) = l.map id := List.map_congr_left fun k _ => rfl
      rw [e2, List.map_id]
    rw [e] at q
    exact q
theorem paired_at {α β : Type} {F : α → β → Prop} : ∀ {l : List α} {m : List β} {i : Nat} {b : β}, Paired F l m → m[i]? = some b → ∃ a, l[i]? = some a ∧ F a b
  | _, _, i, b, .nil, h => by simp at h
  | _, _, 0, b, .cons r t, h => ⟨_, rfl, by have e := Option.some.inj h; rw [← e]; exact r⟩
  | _, _, i + 1, b, .cons r t, h => by
    obtain ⟨a, ha, f⟩ := paired_at (i := i) t (by simpa using h)
    exact ⟨a, by simpa using ha, f⟩
theorem paired_at2 {α β : Type} {F : α → β → Prop} : ∀ {l : List α} {m : List β} {i : Nat} {a : α}, Paired F l m → l[i]? = some a → ∃ b, m[i]? = some b ∧ F a b
  | _, _, i, b, .nil, h => by simp at h
  | _, _, 0, b, .cons r t, h => ⟨_, rfl, by have e := Option.some.inj h; rw [← e]; exact r⟩
  | _, _, i + 1, b, .cons r t, h => by
    obtain ⟨a, ha, f⟩ := paired_at2 (i := i) t (by simpa using h)
    exact ⟨a, by simpa using ha, f⟩
theorem tab_alike (es : List Tie) : AllAlike ((tab es).map fun p => PyData.tuple (p.1.map keyD)) := PySem.W.AllAlike.of (enc := fun t : Tie => PyData.tuple ((entT t).1.map keyD)) (bs := es) (fun a b => by simp [entT, keyD, alike, PySem.W.alikeAll]) |> fun h => by
  have e : (tab es).map (fun p => PyData.tuple (p.1.map keyD)) = es.map fun t => PyData.tuple ((entT t).1.map keyD) := by rw [List.map_map]; rfl
  rw [e]
  exact h
theorem tab_sortable (es : List Tie) : Sortable ((tab es).map fun p => PyData.tuple (p.1.map keyD)) := by
  have e : (tab es).map (fun p => PyData.tuple (p.1.map keyD)) = es.map fun t => PyData.tuple ((entT t).1.map keyD) := by rw [List.map_map]; rfl
  rw [e]
  exact PySem.W.Sortable.tuples fun b => ⟨_, _, rfl⟩
theorem tab_depth (es : List Tie) : ∀ p ∈ tab es, (PyData.tuple (p.1.map keyD)).depth ≤ 8 := fun p hp => by
  obtain ⟨t, _, rfl⟩ := List.mem_map.mp hp
  simp [entT, keyD, PyData.depth, PyData.depthAll]
def spNetOf (K : PySem.W.Frag) : Sp := fun vs H Q _ => ∃ (D L T : Addr) (lps ps : List Str) (es ts : List Tie), vs = [.ref D] ∧ StateAt H D L T lps es ∧ NetOk ps ts ∧ LawNet ps ts lps es ∧
  ∀ (H' : Hp) (v : V), Same H H' → Dp K H' v (netD ps ts) → Q v H'
abbrev sNetOf : Stmt := topS 44
abbrev nNo : List Str := ["_law_state", "_law_ties", "_law_pair_here"]
section
variable {P : Program} {w : World} {K : PySem.W.Frag} {mg : Str → Option Value} {base : Heap}
theorem scNo : FnScope nNo ["_law_state"] (defScope sNetOf) := ⟨rfl, rfl, rfl, by decide +kernel, rfl, by decide +kernel, by decide +kernel⟩
theorem ok_netOf {f : Addr} {fd : FuncData} (A : At K mg "_law_net_of" "_law_net_of" sNetOf f fd) (B : Blt mg) : FnOk P w K mg base CX0 1 f fd ["_law_state"] (spNetOf K) := by
  refine A.F.ok scNo (fun vs H Q E h => ?_) (fun cdv A outer s H vs Q E hr h => ?_)
  · obtain ⟨D, L, T, lps, ps, es, ts, rfl, _⟩ := h
    rfl
  · obtain ⟨D, L, T, lps, ps, es, ts, rfl, S, N, LN, k⟩ := h
    have hu := hu_of hr
    refine ⟨_, pss_cons (ps_set (i := 1) scNo.nd rfl (Or.inr rfl) (pe_dget hu (pv 0) pe_str (fun _ _ => rfl)))
      (pss_one (ps_ret (pe_tup (pa_cons (pe_callTy call_tuple_of (by rfl) B.tuple (by decide +kernel) (pa_cons (pe_callB (cr_sortD hr.units) (by rfl) B.sorted (by decide +kernel) (pa_cons (pe_dget hu (pv 0) pe_str (fun _ _ => rfl)) pa_nil)) pa_nil))
        (pa_cons (pe_callTy call_tuple_of (by rfl) B.tuple (by decide +kernel) (pa_cons
          (pe_lc (own := [("_law_pair_here", 2)]) (g := gName 2) (by rfl) scNo.nd (pi_list (pe_callB (cr_sortKeys rfl hr.units) (by rfl) B.sorted (by decide +kernel) (pa_cons (pv 1) pa_nil))) (blkOk_by (N := nNo) (sc := defScope sNetOf) (by decide +kernel)) (fun _ _ _ _ _ => pg_name (i := 2) scNo.nd rfl (Or.inl rfl)) (fun _ _ _ _ _ => pts_nil)
            (fun _ _ _ _ _ => pe_op (r := rCatA K) op_catA (pv 2) (pe_tup (pa_cons (pe_dget hu (pv 1) (pv 2) (fun _ _ => rfl)) pa_nil)))) pa_nil)) pa_nil))))), ?_⟩
    refine ⟨_, rfl, D, _, rfl, (by rw [← st_ti L T]; exact DGet.k (k := Sum.inr "ties") S.d), ?_⟩
    refine ⟨_, rfl, D, _, rfl, (by rw [← st_pl L T]; exact DGet.k (k := Sum.inr "places") S.d), ?_⟩
    refine ⟨Str, L, _, lps, PyData.str, rfl, .inl (SqL.of S.l), strs_dp _, str_alike _, str_sortable _, fun b _ => str_depth b, fun q zs cs nq pm up dd => ?_⟩
    have ezs := dp_strs dd
    have ecs : cs = ps := places_same N LN pm up
    have s1 : Same H (upd H q (.lst zs)) := same_upd nq
    refine ⟨q, zs, rfl, .inl ⟨SqL.of upd_same, fun l nl => ?_⟩⟩
    have s2 : Same (upd H q (.lst zs)) (upd (upd H q (.lst zs)) l (.tup zs)) := same_upd nl
    have hl : (upd (upd H q (.lst zs)) l (.tup zs)) l = some (.tup zs) := upd_same
    have s12 := s1.trans s2
    generalize upd (upd H q (.lst zs)) l (.tup zs) = H2 at s2 hl s12
    refine ⟨_, rfl, T, tab es, rfl, .inl (s12 _ _ S.t), tab_alike es, tab_sortable es, tab_depth es, fun q3 ys ds nq3 pm3 up3 kz => ⟨q3, rfl, ⟨_, SqL.of upd_same⟩, fun D2 nD2 => ?_⟩⟩
    have s3 : Same H2 (upd H2 q3 (.lst ys)) := same_upd nq3
    have hq3 : (upd H2 q3 (.lst ys)) q3 = some (.lst ys) := upd_same
    have s13 := s12.trans s3
    generalize hH3 : upd H2 q3 (.lst ys) = H3 at s3 hq3 nD2 s13
    rw [tab_keys] at pm3
    obtain ⟨ks, eks, pks⟩ := keys_back pm3
    subst eks
    have upk : ks.Pairwise fun a b => dataLt (prD b) (prD a) = false := (List.pairwise_map.mp up3).imp fun {a b} z => z
    obtain ⟨ekt, look⟩ := net_same N LN pks upk
    have lys : ys.length = ts.length := by
      have q := Paired.length kz
      rw [q, List.length_map, ekt, List.length_map]
    have f60 := N.tfew
    refine lc_list (K := K) (a := q3) (xs := ys) (fun i H4 => ∃ zs2 : List V, Same H3 H4 ∧ H4 D2 = some (.lst zs2) ∧ DpAll K H4 zs2 ((ts.take i).map tieD)) ⟨[], same_upd nD2, upd_same, .nil⟩ (fun i H4 _ ⟨_, s4, _⟩ => SqL.of (s4 _ _ hq3)) ?_ ?_
    · rintro i y H4 hi ⟨zs2, s4, hD, dp⟩
      have hil := (List.getElem?_eq_some_iff.mp hi).1
      obtain ⟨t, ht⟩ : ∃ t, ts[i]? = some t := ⟨_, List.getElem?_eq_getElem (by omega)⟩
      obtain ⟨kx, hkx, b, rfl, hb⟩ := paired_at2 kz hi
      rw [List.getElem?_map, ekt, List.getElem?_map, ht] at hkx
      have ek : kk (pk t) = kx := Option.some.inj hkx
      subst ek
      have hb4 : H4 b = some (.tup ((kk (pk t)).map kV)) := s4 _ _ (s3 _ _ hb)
      have lt : valV (tab es) (kk (pk t)) = some (.int t.2.2) := by rw [tab_val, look t (List.mem_of_getElem? ht)]; rfl
      refine ⟨rfl, yes_of (iteT ?_)⟩
      refine ⟨_, rfl, _, rfl, _, rfl, T, _, rfl, (by rw [← lt]; exact DGet.t (s4 _ _ (s13 _ _ S.t)) hb4), (by show 1 ≤ sizeLine; decide), fun q5 nq5 => ?_⟩
      have s5 : Same H4 (upd H4 q5 (.tup [.int t.2.2])) := same_upd nq5
      refine catA_any (seqT_same s5 (SqT.of hb4)) (SqT.of upd_same) (by show 2 + 1 ≤ sizeLine; decide) (fun H6 z s6 hz => ?_)
      have hz' : SqT K H6 z [.str t.1, .str t.2.1, .int t.2.2] := hz
      have s46 := s5.trans s6
      have l2 : zs2.length = (ts.take i).length := dp_len dp
      have hD6 := s46 _ _ hD
      have t7 : TupK H6 (upd H6 D2 (.lst (zs2 ++ [.ref z]))) := TupK.but (p := D2) But.set (by rw [hD6]; exact True.intro)
      refine ⟨zs2, hD6, small1000 (by rw [l2, List.length_take]; omega), zs2 ++ [.ref z], fun c o e => ?_, upd_same, ?_⟩
      · rw [upd_ne (ne_of_none e nD2)]
        exact s46 _ _ (s4 _ _ e)
      · rw [List.take_add_one, ht]
        exact ties_k t7 (dp_snoc (DpAll_same s46 dp) (tie_to hz'))
    · rintro H4 ⟨zs2, s4, hD, dp⟩
      rw [List.take_of_length_le (by omega)] at dp
      refine ⟨D2, zs2, rfl, .inl ⟨SqL.of hD, fun l3 nl3 => ⟨(by show 2 ≤ sizeLine; decide), fun u nu => ?_⟩⟩⟩
      have s5 := same_upd (o := .tup zs2) nl3
      have s6 := same_upd (o := .tup [.ref l, .ref l3]) nu
      have sl := s4.trans (s5.trans s6)
      refine k _ (.ref u) (s13.trans sl) (net_to (SqT.of upd_same) (SqT.of ((s3.trans sl) _ _ (by rw [hl, ezs, ecs]))) (seqT_same s6 (SqT.of upd_same)) (DpAll_same (s5.trans s6) dp))
end
end L2.T
set_option maxHeartbeats 2000000
namespace L2.T
open PySem PySem.Spec PyProof.Rows
open PySem.W (dataLt dataLe alike AllAlike Sortable EachIs)
open Thin
/-- a deed as the law writes it -/
def dvs : Deed → List V
  | .come a => [.str "come", .str a]
  | .go a => [.str "go", .str a]
  | .far a b => [.str "far", .str a, .str b]
  | .lay a b n => [.str "lay", .str a, .str b, .int n]
  | .take a b => [.str "take", .str a, .str b]
theorem iteW {x y : Str} {A B : Prop} [Decidable (V.str x = V.str y)] (h : ¬ x = y) (hb : B) : if decide (V.str x = V.str y) = true then A else B := by
  rw [if_neg]
  · exact hb
  · intro z
    have z := of_decide_eq_true z
    injection z with z
    exact h z
theorem iteE {x : Str} {A B : Prop} [Decidable (V.str x = V.str x)] (ha : A) : if decide (V.str x = V.str x) = true then A else B := by
  rw [if_pos (decide_eq_true rfl)]
  exact ha
theorem w_cg : ¬ ("come" : Str) = "go" := by decide +kernel
theorem w_cl : ¬ ("come" : Str) = "lay" := by decide +kernel
theorem w_ct : ¬ ("come" : Str) = "take" := by decide +kernel
theorem w_gc : ¬ ("go" : Str) = "come" := by decide +kernel
theorem w_gl : ¬ ("go" : Str) = "lay" := by decide +kernel
theorem w_gt : ¬ ("go" : Str) = "take" := by decide +kernel
theorem w_lc : ¬ ("lay" : Str) = "come" := by decide +kernel
theorem w_lg : ¬ ("lay" : Str) = "go" := by decide +kernel
theorem w_lt : ¬ ("lay" : Str) = "take" := by decide +kernel
theorem w_tc : ¬ ("take" : Str) = "come" := by decide +kernel
theorem w_tg : ¬ ("take" : Str) = "go" := by decide +kernel
theorem w_tl : ¬ ("take" : Str) = "lay" := by decide +kernel
theorem w_fc : ¬ ("far" : Str) = "come" := by decide +kernel
theorem w_fg : ¬ ("far" : Str) = "go" := by decide +kernel
theorem w_fl : ¬ ("far" : Str) = "lay" := by decide +kernel
theorem w_ft : ¬ ("far" : Str) = "take" := by decide +kernel
/-- what may be done of it -/
def mayDo (lps : List Str) (es : List Tie) : Deed → Prop
  | .come _ => True
  | .go a => a ∈ lps
  | .far _ _ => False
  | .lay _ _ _ => True
  | .take a b => joined (pr a b) es = true
def spDo (K : PySem.W.Frag) : Sp := fun vs H Q _ => ∃ (D L T da : Addr) (lps : List Str) (es : List Tie) (d : Deed), vs = [.ref D, .ref da] ∧ StateAt H D L T lps es ∧ SqT K H da (dvs d) ∧ lps.length ≤ 24 ∧ es.length ≤ 60 ∧ (es.map pk).Nodup ∧ mayDo lps es d ∧
  ∀ (H' : Hp) (lps' : List Str) (es' : List Tie), LawAfter lps es d lps' es' → StateAt H' D L T lps' es' → (∀ b o, H b = some o → b ≠ L → b ≠ T → H' b = some o) → Q .non H'
/-- while the ties of a place go -/
def cur (a : Str) (es : List Tie) (i : Nat) : List Tie := (es.take i).filter (fun t => decide (¬ (t.1 = a ∨ t.2.1 = a))) ++ es.drop i
theorem cur_zero (a : Str) (es : List Tie) : cur a es 0 = es := by simp [cur]
theorem cur_end (a : Str) (es : List Tie) {n : Nat} (h : es.length ≤ n) : cur a es n = Thin.without a es := by
  unfold cur Thin.without
  rw [List.take_of_length_le h, List.drop_eq_nil_of_le h, List.append_nil]
theorem cur_split {a : Str} {es : List Tie} {i : Nat} {t : Tie} (h : es[i]? = some t) : cur a es i = (es.take i).filter (fun t => decide (¬ (t.1 = a ∨ t.2.1 = a))) ++ t :: es.drop (i + 1) := by
  have hi := (List.getElem?_eq_some_iff.mp h).1
  have e : es[i] = t := (List.getElem?_eq_some_iff.mp h).2
  unfold cur
  rw [List.drop_eq_getElem_cons hi, e]
theorem cur_keep {a : Str} {es : List Tie} {i : Nat} {t : Tie} (h : es[i]? = some t) (k : ¬ (t.1 = a ∨ t.2.1 = a)) : cur a es (i + 1) = cur a es i := by
  rw [cur_split h]
  unfold cur
  rw [List.take_add_one, h, List.filter_append]
  have e : (some t).toList.filter (fun t => decide (¬ (t.1 = a ∨ t.2.1 = a))) = [t] := List.filter_cons_of_pos (decide_eq_true k)
  rw [e, List.append_assoc]
  rfl
theorem cur_sub (a : Str) (es : List Tie) (i : Nat) : (cur a es i).Sublist es := by
  have q : (cur a es i).Sublist (es.take i ++ es.drop i) := List.Sublist.append List.filter_sublist (List.Sublist.refl _)
  rw [List.take_append_drop] at q
  exact q
theorem cur_go {a : Str} {es : List Tie} {i : Nat} {t : Tie} (h : es[i]? = some t) (k : t.1 = a ∨ t.2.1 = a) (nd : (es.map pk).Nodup) : cur a es (i + 1) = Thin.rest (pk t) (cur a es i) ∧ lookT (cur a es i) (pk t) = some t.2.2 := by
  have nc : ((cur a es i).map pk).Nodup := ((cur_sub a es i).map pk).nodup nd
  have mem : t ∈ cur a es i := by rw [cur_split h]; exact List.mem_append_right _ List.mem_cons_self
  refine ⟨?_, look_mem nc mem⟩
  rw [cur_split h] at nc ⊢
  rw [List.map_append, List.map_cons] at nc
  obtain ⟨n1, n2, n3⟩ := List.nodup_append.mp nc
  obtain ⟨n4, n5⟩ := List.nodup_cons.mp n2
  have r1 : joined (pk t) ((es.take i).filter (fun t => decide (¬ (t.1 = a ∨ t.2.1 = a)))) = false := not_joined fun z => n3 _ z _ List.mem_cons_self rfl
  have r2 : joined (pk t) (es.drop (i + 1)) = false := not_joined n4
  have e1 : Thin.rest (pk t) ((es.take i).filter (fun t => decide (¬ (t.1 = a ∨ t.2.1 = a))) ++ t :: es.drop (i + 1)) = Thin.rest (pk t) ((es.take i).filter (fun t => decide (¬ (t.1 = a ∨ t.2.1 = a)))) ++ Thin.rest (pk t) (t :: es.drop (i + 1)) := by
    unfold Thin.rest
    rw [List.filter_append]
  rw [e1, rest_cons_pos rfl, rest_none r1, rest_none r2]
  unfold cur
  rw [List.take_add_one, h, List.filter_append]
  have e : (some t).toList.filter (fun t => decide (¬ (t.1 = a ∨ t.2.1 = a))) = [] := by
    rcases k with k | k <;> simp [k]
  rw [e, List.append_nil]
abbrev sDo : Stmt := topS 46
abbrev nDo : List Str := ["_law_state", "_law_deed_here", "_law_pair_here"]
section
variable {P : Program} {w : World} {K : PySem.W.Frag} {mg : Str → Option Value} {base : Heap}
theorem scDo : FnScope nDo ["_law_state", "_law_deed_here"] (defScope sDo) := ⟨rfl, rfl, rfl, by decide +kernel, rfl, by decide +kernel, by decide +kernel⟩
theorem ok_do {f fP : Addr} {fd fdP : FuncData} (A : At K mg "_law_do" "_law_do" sDo f fd) (PR : At K mg "_law_pair" "_law_pair" sPair fP fdP) (bP : Binds K fdP ["_law_a", "_law_b"] []) (B : Blt mg) : FnOk P w K mg base CX0 2 f fd ["_law_state", "_law_deed_here"] (spDo K) := by
  have GP : FnOk P w K mg base CX0 1 fP fdP ["_law_a", "_law_b"] (spPair K) := ok_pair PR B
  refine A.F.ok scDo (fun vs H Q E h => ?_) (fun cdv A outer s H vs Q E hr h => ?_)
  · obtain ⟨D, L, T, da, lps, es, d, rfl, _⟩ := h
    rfl
  · obtain ⟨D, L, T, da, lps, es, d, rfl, S, hd, few1, few2, nd, may, k⟩ := h
    have hu := hu_of hr
    refine ⟨_, pss_cons (ps_if (pt_cmpR op_eq (pe_ix ix_tup (pv 1) pe_int (fun _ _ => rfl)) pe_str (nomark _))
        (pss_one (ps_expr (pe_bm PySem.F.plainAttrs_list PySem.F.slot_list_append PySem.F.type_list_append mt_append (pe_dget hu (pv 0) pe_str (fun _ _ => rfl)) (pa_cons (pe_ix ix_tup (pv 1) pe_int (fun _ _ => rfl)) pa_nil)))) pss_nil)
      (pss_cons (ps_if (pt_cmpR op_eq (pe_ix ix_tup (pv 1) pe_int (fun _ _ => rfl)) pe_str (nomark _))
        (pss_cons (ps_expr (pe_bm PySem.F.plainAttrs_list PySem.F.slot_list_remove PySem.F.type_list_remove mt_removeS (pe_dget hu (pv 0) pe_str (fun _ _ => rfl)) (pa_cons (pe_ix ix_tup (pv 1) pe_int (fun _ _ => rfl)) pa_nil)))
        (pss_one (ps_for PassesOwn.never rfl (pi_list (pe_callTy (call_list_dT rfl) (by rfl) B.list (by decide +kernel) (pa_cons (pe_dget hu (pv 0) pe_str (fun _ _ => rfl)) pa_nil))) (pg_name (i := 2) scDo.nd rfl (Or.inl rfl))
          (pss_one (ps_if (pt_cmpR op_in_seq (pe_ix ix_tup (pv 1) pe_int (fun _ _ => rfl)) (pv 2) (by rfl))
            (pss_one (ps_expr (pe_bm PySem.F.plainAttrs_dict PySem.F.slot_dict_pop PySem.F.type_dict_pop (mt_popT1 hu) (pe_dget hu (pv 0) pe_str (fun _ _ => rfl)) (pa_cons (pv 2) pa_nil)))) pss_nil))))) pss_nil)
      (pss_cons (ps_if (pt_cmpR op_eq (pe_ix ix_tup (pv 1) pe_int (fun _ _ => rfl)) pe_str (nomark _))
        (pss_one (ps_dput hu (pe_dget hu (pv 0) pe_str (fun _ _ => rfl)) (pe_call GP hr (by rfl) PR.g PR.F.kp bP .nil pass0 (pa_cons (pe_ix ix_tup (pv 1) pe_int (fun _ _ => rfl)) (pa_cons (pe_ix ix_tup (pv 1) pe_int (fun _ _ => rfl)) pa_nil))) (pe_ix ix_tup (pv 1) pe_int (fun _ _ => rfl)) rfl)) pss_nil)
      (pss_one (ps_if (pt_cmpR op_eq (pe_ix ix_tup (pv 1) pe_int (fun _ _ => rfl)) pe_str (nomark _))
        (pss_one (ps_expr (pe_bm PySem.F.plainAttrs_dict PySem.F.slot_dict_pop PySem.F.type_dict_pop (mt_popT1 hu) (pe_dget hu (pv 0) pe_str (fun _ _ => rfl)) (pa_cons (pe_call GP hr (by rfl) PR.g PR.F.kp bP .nil pass0 (pa_cons (pe_ix ix_tup (pv 1) pe_int (fun _ _ => rfl)) (pa_cons (pe_ix ix_tup (pv 1) pe_int (fun _ _ => rfl)) pa_nil))) pa_nil)))) pss_nil)))), ?_⟩
    have gP : ∀ H', StateAt H' D L T lps es → DGet H' D (.str "places") (some (.ref L)) := fun H' S' => by rw [← st_pl L T]; exact DGet.k (k := Sum.inr "places") S'.d
    have gT : ∀ (H' : Hp), H' D = some (.dK (stK L T)) → DGet H' D (.str "ties") (some (.ref T)) := fun H' S' => by rw [← st_ti L T]; exact DGet.k (k := Sum.inr "ties") S'
    cases d with
    | far a b => exact may.elim
    | come a =>
      refine ⟨_, rfl, da, _, _, _, rfl, rfl, hd, rfl, rfl, _, rfl, iteE ?_⟩
      refine ⟨_, rfl, D, _, rfl, gP _ S, .inl ⟨rfl, _, SqL.of S.l⟩, _, rfl, da, _, _, _, rfl, rfl, hd, rfl, L, _, _, rfl, rfl, S.l, small1000 (by rw [List.length_map]; omega), ?_⟩
      have tk : TupK H (upd H L (.lst (lps.map V.str ++ [.str a]))) := TupK.but (p := L) But.set (by rw [S.l]; exact True.intro)
      have hd1 := tk.seq hd
      refine ⟨_, rfl, da, _, _, _, rfl, rfl, hd1, rfl, rfl, _, rfl, iteW w_cg ?_⟩
      refine ⟨_, rfl, da, _, _, _, rfl, rfl, hd1, rfl, rfl, _, rfl, iteW w_cl ?_⟩
      refine ⟨_, rfl, da, _, _, _, rfl, rfl, hd1, rfl, rfl, _, rfl, iteW w_ct ?_⟩
      refine k _ (lps ++ [a]) es ⟨rfl, rfl⟩ ⟨(by rw [upd_ne S.ne2]; exact S.d), (by rw [upd_same, List.map_append]; rfl), (by rw [upd_ne S.ne1.symm]; exact S.t)⟩ fun b o e n1 n2 => ?_
      rw [upd_ne n1]
      exact e
    | lay a b n =>
      refine ⟨_, rfl, da, _, _, _, rfl, rfl, hd, rfl, rfl, _, rfl, iteW w_lc ?_⟩
      refine ⟨_, rfl, da, _, _, _, rfl, rfl, hd, rfl, rfl, _, rfl, iteW w_lg ?_⟩
      refine ⟨_, rfl, da, _, _, _, rfl, rfl, hd, rfl, rfl, _, rfl, iteE ?_⟩
      refine ⟨_, rfl, da, _, _, _, rfl, rfl, hd, rfl, _, rfl, D, _, rfl, gT _ S.d, _, rfl, da, _, _, _, rfl, rfl, hd, rfl, _, rfl, da, _, _, _, rfl, rfl, hd, rfl, a, b, rfl, fun H1 q s1 hq => ?_⟩
      have S1 := S.same s1
      refine ⟨T, _, rfl, DPut.t (k := kk (pr a b)) S1.t hq (small1000 (by rw [List.length_map]; omega)), ?_⟩
      rw [tab_put]
      have tk : TupK H1 (upd H1 T (.dT (tab (putT es (pr a b) n)))) := TupK.but (p := T) But.set (by rw [S1.t]; exact True.intro)
      have hd1 := tk.seq (seqT_same s1 hd)
      refine ⟨_, rfl, da, _, _, _, rfl, rfl, hd1, rfl, rfl, _, rfl, iteW w_lt ?_⟩
      refine k _ lps _ ⟨rfl, rfl⟩ ⟨(by rw [upd_ne S.ne3]; exact S1.d), (by rw [upd_ne S.ne1]; exact S1.l), upd_same⟩ fun b o e n1 n2 => ?_
      rw [upd_ne n2]
      exact s1 _ _ e
    | take a b =>
      refine ⟨_, rfl, da, _, _, _, rfl, rfl, hd, rfl, rfl, _, rfl, iteW w_tc ?_⟩
      refine ⟨_, rfl, da, _, _, _, rfl, rfl, hd, rfl, rfl, _, rfl, iteW w_tg ?_⟩
      refine ⟨_, rfl, da, _, _, _, rfl, rfl, hd, rfl, rfl, _, rfl, iteW w_tl ?_⟩
      refine ⟨_, rfl, da, _, _, _, rfl, rfl, hd, rfl, rfl, _, rfl, iteE ?_⟩
      refine ⟨_, rfl, D, _, rfl, gT _ S.d, .inr (.inr (.inl ⟨rfl, .inr ⟨_, S.t⟩⟩)), _, rfl, da, _, _, _, rfl, rfl, hd, rfl, _, rfl, da, _, _, _, rfl, rfl, hd, rfl, a, b, rfl, fun H1 q s1 hq => ?_⟩
      have S1 := S.same s1
      obtain ⟨x, hx⟩ : ∃ x, lookT es (pr a b) = some x := Option.isSome_iff_exists.mp (by rw [look_some]; exact may)
      refine ⟨T, tab es, kk (pr a b), q, .int x, rfl, rfl, S1.t, hq, (by rw [tab_val, hx]; rfl), ?_⟩
      rw [tab_drop]
      refine k _ lps _ ⟨rfl, rfl⟩ ⟨(by rw [upd_ne S.ne3]; exact S1.d), (by rw [upd_ne S.ne1]; exact S1.l), upd_same⟩ fun b o e n1 n2 => ?_
      rw [upd_ne n2]
      exact s1 _ _ e
    | go a =>
      refine ⟨_, rfl, da, _, _, _, rfl, rfl, hd, rfl, rfl, _, rfl, iteW w_gc ?_⟩
      refine ⟨_, rfl, da, _, _, _, rfl, rfl, hd, rfl, rfl, _, rfl, iteE ?_⟩
      refine ⟨_, rfl, D, _, rfl, gP _ S, .inl ⟨rfl, _, SqL.of S.l⟩, _, rfl, da, _, _, _, rfl, rfl, hd, rfl, L, lps, a, rfl, rfl, S.l, may, ?_⟩
      have tk : TupK H (upd H L (.lst ((lps.erase a).map V.str))) := TupK.but (p := L) But.set (by rw [S.l]; exact True.intro)
      have hd1 := tk.seq hd
      have S1 : StateAt (upd H L (.lst ((lps.erase a).map V.str))) D L T (lps.erase a) es := ⟨(by rw [upd_ne S.ne2]; exact S.d), upd_same, (by rw [upd_ne S.ne1.symm]; exact S.t)⟩
      have b1 : But L H (upd H L (.lst ((lps.erase a).map V.str))) := But.set
      generalize upd H L (.lst ((lps.erase a).map V.str)) = H1 at tk hd1 S1 b1
      refine ⟨_, rfl, D, _, rfl, gT _ S1.d, T, tab es, rfl, .inl S1.t, fun p bs np ik => ⟨p, rfl, ⟨_, SqL.of upd_same⟩, ?_⟩⟩
      have s2 : Same H1 (upd H1 p (.lst (bs.map V.ref))) := same_upd np
      have hp2 : (upd H1 p (.lst (bs.map V.ref))) p = some (.lst (bs.map V.ref)) := upd_same
      have npT : p ≠ T := (ne_of_none S1.t np).symm
      generalize upd H1 p (.lst (bs.map V.ref)) = H2 at s2 hp2
      have lbs : bs.length = es.length := by
        have q := Paired.length ik
        rw [List.length_map] at q
        exact q.symm
      refine for_list (K := K) (a := p) (xs := bs.map V.ref) (fun i σ H' => ∃ s2 : Option V, σ = [some (.ref D), some (.ref da), s2] ∧ But T H2 H' ∧ H' T = some (.dT (tab (cur a es i)))) ⟨_, rfl, fun b o e _ => e, (by rw [cur_zero]; exact s2 _ _ S1.t)⟩
        (fun i σ H' _ ⟨_, _, bt, _⟩ => SqL.of (bt _ _ hp2 npT)) ?_ ?_
      · rintro i y σ H3 hi ⟨z2, rfl, bt, hT⟩
        rw [List.getElem?_map] at hi
        cases eb : bs[i]? with
        | none => rw [eb] at hi; cases hi
        | some b =>
          rw [eb] at hi
          obtain rfl : V.ref b = y := Option.some.inj hi
          obtain ⟨pq, hpq, hb⟩ := paired_at ik eb
          rw [List.getElem?_map] at hpq
          cases et : es[i]? with
          | none => rw [et] at hpq; cases hpq
          | some t =>
            rw [et] at hpq
            obtain rfl : entT t = pq := Option.some.inj hpq
            have tk3 : TupK H1 H3 := (TupK.of s2).trans (TupK.but bt (by rw [s2 _ _ S1.t]; exact True.intro))
            have hb1 : H1 b = some (.tup ((kk (pk t)).map kV)) := hb
            have nbT : b ≠ T := ne_of hb1 S1.t (fun z => nomatch z)
            have hb3 : H3 b = some (.tup ((kk (pk t)).map kV)) := bt _ _ (s2 _ _ hb1) nbT
            have hD3 : H3 D = some (.dK (stK L T)) := bt _ _ (s2 _ _ S1.d) S.ne3
            have ev : ((kk (pk t)).map kV) = [t.1, t.2.1].map V.str := rfl
            have q2 : inV (.str a) ((kk (pk t)).map kV) = decide (a ∈ [t.1, t.2.1]) := by rw [ev]; exact inV_strs a _
            refine ⟨_, rfl, da, _, _, _, rfl, rfl, tk3.seq hd1, rfl, _, rfl, b, _, rfl, .inr (SqT.of hb3), rfl, (by rw [ev]; exact flat_strs _), _, rfl, ?_⟩
            refine ite2 (fun c => ?_) (fun c => ?_)
            · have kx : t.1 = a ∨ t.2.1 = a := by
                rw [if_neg Bool.false_ne_true, q2] at c
                rcases List.mem_cons.mp (of_decide_eq_true c) with m | m
                · exact .inl m.symm
                · exact .inr (List.mem_singleton.mp m).symm
              obtain ⟨g1, g2⟩ := cur_go et kx nd
              refine ⟨_, rfl, D, _, rfl, gT _ hD3, .inr (.inr (.inl ⟨rfl, .inr ⟨_, hT⟩⟩)), _, rfl, T, _, kk (pk t), b, .int t.2.2, rfl, rfl, hT, hb3, (by rw [tab_val, g2]; rfl), ?_⟩
              exact ⟨_, rfl, bt.trans But.set, by rw [upd_same, tab_drop, g1]⟩
            · have kx : ¬ (t.1 = a ∨ t.2.1 = a) := fun z => c (by
                rw [if_neg Bool.false_ne_true, q2]
                refine decide_eq_true ?_
                rcases z with z | z
                · rw [z]; simp
                · rw [z]; simp)
              exact ⟨_, rfl, bt, by rw [cur_keep et kx]; exact hT⟩
      · rintro σ H3 ⟨z2, rfl, bt, hT⟩
        rw [cur_end a es (by rw [List.length_map, lbs]; exact Nat.le_refl _)] at hT
        have tk3 : TupK H1 H3 := (TupK.of s2).trans (TupK.but bt (by rw [s2 _ _ S1.t]; exact True.intro))
        have hd3 := tk3.seq hd1
        refine ⟨_, rfl, da, _, _, _, rfl, rfl, hd3, rfl, rfl, _, rfl, iteW w_gl ?_⟩
        refine ⟨_, rfl, da, _, _, _, rfl, rfl, hd3, rfl, rfl, _, rfl, iteW w_gt ?_⟩
        exact k _ _ _ ⟨rfl, rfl⟩ ⟨bt _ _ (s2 _ _ S1.d) S.ne3, bt _ _ (s2 _ _ S1.l) S.ne1, hT⟩ fun b o e n1 n2 => bt _ _ (s2 _ _ (b1 _ _ e n1)) n2
end
end L2.T
set_option maxHeartbeats 2000000
namespace L2.T
open PySem PySem.Spec PyProof.Rows
open PySem.W (dataLt dataLe alike AllAlike Sortable EachIs)
open Thin
def spTold (K : PySem.W.Frag) (C : Addr) (er : Str → Addr) : Sp := fun vs H Q E => ∃ (p da : Addr) (ps : List Str) (ts ks : List Tie) (d : Deed), vs = [.ref p, .ref da] ∧ KeepAt K C H p ps ts ks ∧ NetOk ps ts ∧ SqT K H da (dvs d) ∧ d.fine ∧ Told K C er H p ps ts ks d Q E
abbrev sTold : Stmt := topS 47
abbrev sSort : Stmt := topS 48
/-- how an error of this word stands to the text's classes -/
structure KindOf (K : PySem.W.Frag) (er : Str → Addr) (li pa ro : Addr) (w : Str) (b1 b2 b3 b4 : Bool) : Prop where
  ec : ExcC K (er w)
  k1 : PySem.W.kitOne K (.ref (er w)) (.ref (er "twice")) = some b1
  k2 : PySem.W.kitOne K (.ref (er w)) (.ref (er "many")) = some b2
  k3 : PySem.W.kitOne K (.ref (er w)) (.ref (er "place")) = some b3
  k4 : PySem.W.kitOne K (.ref (er w)) (.ref (er "tie")) = some b4
  k5 : PySem.W.kitOne K (.ref (er w)) (.ref li) = some false
  k6 : PySem.W.kitOne K (.ref (er w)) (.ref pa) = some false
  k7 : PySem.W.kitOne K (.ref (er w)) (.ref ro) = some false
  kv : PySem.W.kitOne K (.ref (er w)) (.type "ValueError") = some true
structure Kinds (K : PySem.W.Frag) (mg : Str → Option Value) (er : Str → Addr) (li pa ro : Addr) : Prop where
  gl : mg "NoLine" = some (.ref li)
  gp : mg "NoPaper" = some (.ref pa)
  gr : mg "NoRow" = some (.ref ro)
  tw : KindOf K er li pa ro "twice" true false false false
  mn : KindOf K er li pa ro "many" false true false false
  pl : KindOf K er li pa ro "place" false false true false
  ti : KindOf K er li pa ro "tie" false false false true
theorem idx_true {bs : List Bool} {j : Nat} (h : ∀ m < j, bs[m]? = some false) : ∀ (m : Nat) (z : V), m < j → (bs.map V.bl)[m]? = some z → eqV z (.bl true) = false := by
  intro m z hm hz
  rw [List.getElem?_map, h m hm] at hz
  have e : V.bl false = z := Option.some.inj hz
  rw [← e]
  rfl
def spSort : Sp := fun vs H Q _ => ∃ (a D : Addr) (w : Str), vs = [.ref a] ∧ H a = some (HeldE (.ref D) a) ∧ (w = "twice" ∨ w = "many" ∨ w = "place" ∨ w = "tie") ∧ ∀ H', Same H H' → Q (.str w) H'
def spSortE (er : Str → Addr) : Sp := fun vs H Q _ => ∃ (a : Addr) (w : Str), vs = [.ref a] ∧ H a = some (HeldE (.ref (er w)) a) ∧ (w = "twice" ∨ w = "many" ∨ w = "place" ∨ w = "tie") ∧ ∀ H', Same H H' → Q (.str w) H'
section
variable {P : Program} {w : World} {K : PySem.W.Frag} {mg : Str → Option Value} {base : Heap} {er : Str → Addr}
theorem scTo : FnScope ["_law_keeper", "_law_deed_here"] ["_law_keeper", "_law_deed_here"] (defScope sTold) := ⟨rfl, rfl, rfl, by decide +kernel, rfl, by decide +kernel, by decide +kernel⟩
theorem ok_told {f C f1 f2 f3 f4 f5 : Addr} {fd fd1 fd2 fd3 fd4 fd5 : FuncData} (A : At K mg "_law_told" "_law_told" sTold f fd) (T : KTxt K mg C)
    (M1 : Me K C "come" "Keeper.come" (sKeep 3) f1 fd1) (b1 : Binds K fd1 ["self", "name"] []) (G1 : FnOk P w K mg base (L2.CX P w) 7 f1 fd1 ["self", "name"] (spCome K C er))
    (M2 : Me K C "go" "Keeper.go" (sKeep 4) f2 fd2) (b2 : Binds K fd2 ["self", "name"] []) (G2 : FnOk P w K mg base (L2.CX P w) 7 f2 fd2 ["self", "name"] (spGo K C er))
    (M3 : Me K C "lay" "Keeper.lay" (sKeep 6) f3 fd3) (b3 : Binds K fd3 ["self", "a", "b", "length"] []) (G3 : FnOk P w K mg base (L2.CX P w) 7 f3 fd3 ["self", "a", "b", "length"] (spLay K C er))
    (M4 : Me K C "take" "Keeper.take" (sKeep 7) f4 fd4) (b4 : Binds K fd4 ["self", "a", "b"] []) (G4 : FnOk P w K mg base (L2.CX P w) 7 f4 fd4 ["self", "a", "b"] (spTake K C er))
    (M5 : Me K C "far" "Keeper.far" (sKeep 10) f5 fd5) (b5 : Binds K fd5 ["self", "a", "b"] []) (G5 : FnOk P w K mg base (L2.CX P w) 4 f5 fd5 ["self", "a", "b"] (spKFar K C er)) :
    FnOk P w K mg base (L2.CX P w) 8 f fd ["_law_keeper", "_law_deed_here"] (spTold K C er) := by
  refine A.F.okX scTo (fun vs H Q E h => ?_) (fun cdv A outer s H vs Q E hr h => ?_)
  · obtain ⟨p, da, ps, ts, ks, d, rfl, _⟩ := h
    rfl
  · obtain ⟨p, da, ps, ts, ks, d, rfl, KA, N, hd, fine, told⟩ := h
    have hr4 : Room 4 _ := hr.mono (by decide)
    refine ⟨_, (pss_cons (ps_if (pt_cmpR op_eq (pe_ix ix_tup (pv 1) pe_int (fun _ _ => rfl)) pe_str (nomark _)) (pss_one (ps_ret (pe_meth (pv 0) T.cl M1.m G1 hr b1 .nil (passes_call (takes_of rfl rfl rfl rfl) (fun _ _ _ _ h => h)) (pa_cons (pe_ix ix_tup (pv 1) pe_int (fun _ _ => rfl)) pa_nil)))) pss_nil) (pss_cons (ps_if (pt_cmpR op_eq (pe_ix ix_tup (pv 1) pe_int (fun _ _ => rfl)) pe_str (nomark _)) (pss_one (ps_ret (pe_meth (pv 0) T.cl M2.m G2 hr b2 .nil (passes_call (takes_of rfl rfl rfl rfl) (fun _ _ _ _ h => h)) (pa_cons (pe_ix ix_tup (pv 1) pe_int (fun _ _ => rfl)) pa_nil)))) pss_nil) (pss_cons (ps_if (pt_cmpR op_eq (pe_ix ix_tup (pv 1) pe_int (fun _ _ => rfl)) pe_str (nomark _)) (pss_one (ps_ret (pe_meth (pv 0) T.cl M3.m G3 hr b3 .nil (passes_call (takes_of rfl rfl rfl rfl) (fun _ _ _ _ h => h)) (pa_cons (pe_ix ix_tup (pv 1) pe_int (fun _ _ => rfl)) (pa_cons (pe_ix ix_tup (pv 1) pe_int (fun _ _ => rfl)) (pa_cons (pe_ix ix_tup (pv 1) pe_int (fun _ _ => rfl)) pa_nil)))))) pss_nil) (pss_cons (ps_if (pt_cmpR op_eq (pe_ix ix_tup (pv 1) pe_int (fun _ _ => rfl)) pe_str (nomark _)) (pss_one (ps_ret (pe_meth (pv 0) T.cl M4.m G4 hr b4 .nil (passes_call (takes_of rfl rfl rfl rfl) (fun _ _ _ _ h => h)) (pa_cons (pe_ix ix_tup (pv 1) pe_int (fun _ _ => rfl)) (pa_cons (pe_ix ix_tup (pv 1) pe_int (fun _ _ => rfl)) pa_nil))))) pss_nil) (pss_one (ps_ret (pe_meth (pv 0) T.cl M5.m G5 hr4 b5 .nil (passes_call (takes_of rfl rfl rfl rfl) (fun _ _ _ _ h => h)) (pa_cons (pe_ix ix_tup (pv 1) pe_int (fun _ _ => rfl)) (pa_cons (pe_ix ix_tup (pv 1) pe_int (fun _ _ => rfl)) pa_nil))))))))), ?_⟩
    obtain ⟨dx, t, v, u, hp, _⟩ := id KA
    cases d with
    | come a =>
      refine ⟨_, rfl, da, _, _, _, rfl, rfl, hd, rfl, rfl, _, rfl, iteE ?_⟩
      exact ⟨_, rfl, p, dx, _, rfl, hp, flds_no _ _ _ (by decide +kernel) (by decide +kernel) (by decide +kernel), _, rfl, da, _, _, _, rfl, rfl, hd, rfl, p, a, ps, ts, ks, rfl, KA, N, fine, told⟩
    | go a =>
      refine ⟨_, rfl, da, _, _, _, rfl, rfl, hd, rfl, rfl, _, rfl, iteW w_gc ?_⟩
      refine ⟨_, rfl, da, _, _, _, rfl, rfl, hd, rfl, rfl, _, rfl, iteE ?_⟩
      exact ⟨_, rfl, p, dx, _, rfl, hp, flds_no _ _ _ (by decide +kernel) (by decide +kernel) (by decide +kernel), _, rfl, da, _, _, _, rfl, rfl, hd, rfl, p, a, ps, ts, ks, rfl, KA, N, told⟩
    | lay a b n =>
      refine ⟨_, rfl, da, _, _, _, rfl, rfl, hd, rfl, rfl, _, rfl, iteW w_lc ?_⟩
      refine ⟨_, rfl, da, _, _, _, rfl, rfl, hd, rfl, rfl, _, rfl, iteW w_lg ?_⟩
      refine ⟨_, rfl, da, _, _, _, rfl, rfl, hd, rfl, rfl, _, rfl, iteE ?_⟩
      exact ⟨_, rfl, p, dx, _, rfl, hp, flds_no _ _ _ (by decide +kernel) (by decide +kernel) (by decide +kernel), _, rfl, da, _, _, _, rfl, rfl, hd, rfl, _, rfl, da, _, _, _, rfl, rfl, hd, rfl, _, rfl, da, _, _, _, rfl, rfl, hd, rfl, p, a, b, n, ps, ts, ks, rfl, KA, N, fine, told⟩
    | take a b =>
      refine ⟨_, rfl, da, _, _, _, rfl, rfl, hd, rfl, rfl, _, rfl, iteW w_tc ?_⟩
      refine ⟨_, rfl, da, _, _, _, rfl, rfl, hd, rfl, rfl, _, rfl, iteW w_tg ?_⟩
      refine ⟨_, rfl, da, _, _, _, rfl, rfl, hd, rfl, rfl, _, rfl, iteW w_tl ?_⟩
      refine ⟨_, rfl, da, _, _, _, rfl, rfl, hd, rfl, rfl, _, rfl, iteE ?_⟩
      exact ⟨_, rfl, p, dx, _, rfl, hp, flds_no _ _ _ (by decide +kernel) (by decide +kernel) (by decide +kernel), _, rfl, da, _, _, _, rfl, rfl, hd, rfl, _, rfl, da, _, _, _, rfl, rfl, hd, rfl, p, a, b, ps, ts, ks, rfl, KA, N, told⟩
    | far a b =>
      refine ⟨_, rfl, da, _, _, _, rfl, rfl, hd, rfl, rfl, _, rfl, iteW w_fc ?_⟩
      refine ⟨_, rfl, da, _, _, _, rfl, rfl, hd, rfl, rfl, _, rfl, iteW w_fg ?_⟩
      refine ⟨_, rfl, da, _, _, _, rfl, rfl, hd, rfl, rfl, _, rfl, iteW w_fl ?_⟩
      refine ⟨_, rfl, da, _, _, _, rfl, rfl, hd, rfl, rfl, _, rfl, iteW w_ft ?_⟩
      exact ⟨_, rfl, p, dx, _, rfl, hp, flds_no _ _ _ (by decide +kernel) (by decide +kernel) (by decide +kernel), _, rfl, da, _, _, _, rfl, rfl, hd, rfl, _, rfl, da, _, _, _, rfl, rfl, hd, rfl, p, a, b, ps, ts, ks, rfl, KA, N, told⟩
theorem scSo : FnScope ["_law_caught", "_law_some"] ["_law_caught"] (defScope sSort) := ⟨rfl, rfl, rfl, by decide +kernel, rfl, by decide +kernel, by decide +kernel⟩
theorem ok_sort {f li pa ro : Addr} {fd : FuncData} (A : At K mg "_law_sort" "_law_sort" sSort f fd) (R : Errs K mg er) (KD : Kinds K mg er li pa ro) (B : Blt mg) : FnOk P w K mg base CX0 1 f fd ["_law_caught"] (spSortE er) := by
  refine A.F.ok scSo (fun vs H Q E h => ?_) (fun cdv A outer s H vs Q E hr h => ?_)
  · obtain ⟨a, z, rfl, _⟩ := h
    rfl
  · obtain ⟨a, z, rfl, ha, hz, k⟩ := h
    refine ⟨_, (pss_cons (ps_set (i := 1) scSo.nd rfl (Or.inl rfl) (pe_lst (pa_cons (pe_callB call_isO (by rfl) B.isi PyProof.Rows.boot_isinstance (pa_cons (pv 0) (pa_cons (pe_glob (v := .ref (er "twice")) (by rfl) R.tw.g rfl) pa_nil))) (pa_cons (pe_callB call_isO (by rfl) B.isi PyProof.Rows.boot_isinstance (pa_cons (pv 0) (pa_cons (pe_glob (v := .ref (er "many")) (by rfl) R.mn.g rfl) pa_nil))) (pa_cons (pe_callB call_isO (by rfl) B.isi PyProof.Rows.boot_isinstance (pa_cons (pv 0) (pa_cons (pe_glob (v := .ref (er "place")) (by rfl) R.pl.g rfl) pa_nil))) pa_nil))))) (pss_cons (ps_set (i := 1) scSo.nd rfl (Or.inl rfl) (pe_op op_cat (pv 1) (pe_lst (pa_cons (pe_callB call_isO (by rfl) B.isi PyProof.Rows.boot_isinstance (pa_cons (pv 0) (pa_cons (pe_glob (v := .ref (er "tie")) (by rfl) R.ti.g rfl) pa_nil))) (pa_cons (pe_callB call_isO (by rfl) B.isi PyProof.Rows.boot_isinstance (pa_cons (pv 0) (pa_cons (pe_glob (v := .ref (li)) (by rfl) KD.gl rfl) pa_nil))) (pa_cons (pe_callB call_isO (by rfl) B.isi PyProof.Rows.boot_isinstance (pa_cons (pv 0) (pa_cons (pe_glob (v := .ref (pa)) (by rfl) KD.gp rfl) pa_nil))) pa_nil)))))) (pss_cons (ps_expr (pe_bm PySem.F.plainAttrs_list PySem.F.slot_list_append PySem.F.type_list_append mt_append (pv 1) (pa_cons (pe_callB call_isO (by rfl) B.isi PyProof.Rows.boot_isinstance (pa_cons (pv 0) (pa_cons (pe_glob (v := .ref (ro)) (by rfl) KD.gr rfl) pa_nil))) pa_nil))) (pss_cons (ps_if (PW.pt (pw_or (pt_cmpR op_ne (pe_bm PySem.F.plainAttrs_list PySem.F.slot_list_count PySem.F.type_list_count mt_countB (pv 1) (pa_cons pe_bl pa_nil)) pe_int (nomark _)) (pw_or1 (pt_not (pt_val (pe_callB call_isO (by rfl) B.isi PyProof.Rows.boot_isinstance (pa_cons (pv 0) (pa_cons (pe_bltn (v := .ty "ValueError") (by rfl) B.val (by decide +kernel) rfl) pa_nil)))))))) (pss_one (ps_ret pe_str)) pss_nil) (pss_one (ps_ret (pe_ix ix_list (pe_lst (pa_cons pe_str (pa_cons pe_str (pa_cons pe_str (pa_cons pe_str (pa_cons pe_str (pa_cons pe_str (pa_cons pe_str pa_nil)))))))) (pe_bm PySem.F.plainAttrs_list PySem.F.slot_list_index PySem.F.type_list_index mt_index (pv 1) (pa_cons pe_bl pa_nil)) (fun _ _ => rfl)))))))), ?_⟩
    -- for every word alike
    have main : ∃ (b1 b2 b3 b4 : Bool) (j : Nat), KindOf K er li pa ro z b1 b2 b3 b4 ∧ [b1, b2, b3, b4, false, false, false].count true = 1 ∧ [b1, b2, b3, b4, false, false, false][j]? = some true ∧ (∀ m < j, [b1, b2, b3, b4, false, false, false][m]? = some false) ∧
        ([V.str "twice", .str "many", .str "place", .str "tie", .str "line", .str "paper", .str "row"])[j]? = some (.str z) := by
      rcases hz with rfl | rfl | rfl | rfl
      · exact ⟨true, false, false, false, 0, KD.tw, by decide, rfl, by decide, rfl⟩
      · exact ⟨false, true, false, false, 1, KD.mn, by decide, rfl, by decide, rfl⟩
      · exact ⟨false, false, true, false, 2, KD.pl, by decide, rfl, by decide, rfl⟩
      · exact ⟨false, false, false, true, 3, KD.ti, by decide, rfl, by decide, rfl⟩
    obtain ⟨b1, b2, b3, b4, j, Z, one, at_, ahead, word⟩ := main
    refine ⟨_, rfl, a, _, _, _, b1, rfl, ha, Z.ec, (fun _ r => r), Z.k1, _, rfl, a, _, _, _, b2, rfl, ha, Z.ec, (fun _ r => r), Z.k2, _, rfl, a, _, _, _, b3, rfl, ha, Z.ec, (fun _ r => r), Z.k3, (by show 3 ≤ sizeLine; decide), fun l nl => ?_⟩
    have s1 := same_upd (o := .lst [.bl b1, .bl b2, .bl b3]) nl
    have ha1 := s1 _ _ ha
    refine ⟨_, rfl, _, rfl, a, _, _, _, b4, rfl, ha1, Z.ec, (fun _ r => r), Z.k4, _, rfl, a, _, _, _, false, rfl, ha1, Z.ec, (fun _ r => r), Z.k5, _, rfl, a, _, _, _, false, rfl, ha1, Z.ec, (fun _ r => r), Z.k6, (by show 3 ≤ sizeLine; decide), fun l2 nl2 => ?_⟩
    have s2 := same_upd (o := .lst [.bl b4, .bl false, .bl false]) nl2
    refine ⟨l, l2, _, _, rfl, rfl, s2 _ _ upd_same, upd_same, (by show 3 + 3 ≤ sizeLine; decide), fun l3 nl3 => ?_⟩
    have s3 := same_upd (o := .lst ([.bl b1, .bl b2, .bl b3] ++ [.bl b4, .bl false, .bl false])) nl3
    have s13 := s1.trans (s2.trans s3)
    have hl3 : (upd (upd (upd H l (.lst [.bl b1, .bl b2, .bl b3])) l2 (.lst [.bl b4, .bl false, .bl false])) l3 (.lst ([.bl b1, .bl b2, .bl b3] ++ [.bl b4, .bl false, .bl false]))) l3 = some (.lst ([.bl b1, .bl b2, .bl b3] ++ [.bl b4, .bl false, .bl false])) := upd_same
    have fl3 : H l3 = none := (s1.trans s2).free nl3
    generalize upd (upd (upd H l (.lst [.bl b1, .bl b2, .bl b3])) l2 (.lst [.bl b4, .bl false, .bl false])) l3 (.lst ([.bl b1, .bl b2, .bl b3] ++ [.bl b4, .bl false, .bl false])) = H3 at s3 s13 hl3
    have ha3 := s13 _ _ ha
    refine ⟨_, rfl, .inl ⟨rfl, _, SqL.of hl3⟩, _, rfl, a, _, _, _, false, rfl, ha3, Z.ec, (fun _ r => r), Z.k7, l3, _, _, rfl, rfl, hl3, (by show 6 < sizeLine; decide), ?_⟩
    have hl4 : (upd H3 l3 (.lst ([.bl b1, .bl b2, .bl b3] ++ [.bl b4, .bl false, .bl false] ++ [.bl false]))) l3 = some (.lst ([b1, b2, b3, b4, false, false, false].map V.bl)) := upd_same
    have s4 : Same H (upd H3 l3 (.lst ([.bl b1, .bl b2, .bl b3] ++ [.bl b4, .bl false, .bl false] ++ [.bl false]))) := fun b o e => by
      rw [upd_ne (ne_of_none e fl3)]
      exact s13 _ _ e
    generalize upd H3 l3 (.lst ([.bl b1, .bl b2, .bl b3] ++ [.bl b4, .bl false, .bl false] ++ [.bl false])) = H4 at s4 hl4
    refine ⟨_, rfl, .inl ⟨rfl, _, SqL.of hl4⟩, l3, _, true, rfl, rfl, SqL.of hl4, rfl, _, rfl, ?_⟩
    rw [one]
    refine iteF ?_
    refine ⟨_, rfl, a, _, _, .type "ValueError", true, rfl, s4 _ _ ha, Z.ec, (fun _ r => r), Z.kv, _, rfl, ?_⟩
    refine iteF ?_
    refine ⟨(by show 7 ≤ sizeLine; decide), fun q nq => ?_⟩
    have s5 := same_upd (o := .lst [V.str "twice", .str "many", .str "place", .str "tie", .str "line", .str "paper", .str "row"]) nq
    refine ⟨_, rfl, .inl ⟨rfl, _, SqL.of (s5 _ _ hl4)⟩, l3, _, .bl true, j, .bl true, rfl, rfl, SqL.of (s5 _ _ hl4), rfl, (by simp [flatV]), (by rw [List.getElem?_map, at_]; rfl), rfl, idx_true ahead, ?_⟩
    exact ⟨q, _, _, _, rfl, rfl, SqL.of upd_same, atI_nat word, k _ (s4.trans s5)⟩
end
end L2.T
set_option maxHeartbeats 2000000
namespace L2.T
open PySem PySem.Spec PyProof.Rows
open PySem.W (dataLt dataLe alike AllAlike Sortable EachIs)
open Thin
/-- what the keeper's answer to a deed is, as the law tells it -/
def spTried (K : PySem.W.Frag) (C : Addr) : Sp := fun vs H Q _ => ∃ (p da : Addr) (ps : List Str) (ts ks : List Tie) (d : Deed), vs = [.ref p, .ref da] ∧ KeepAt K C H p ps ts ks ∧ NetOk ps ts ∧ SqT K H da (dvs d) ∧ d.fine ∧
  (due ps ts d = "ok" → ∀ (H' : Hp) (ps' : List Str) (ts' ks' : List Tie), But p H H' → KeepAt K C H' p ps' ts' ks' → After ps ts d ps' ts' → (d.word = "far" → ks' = ks) → Q (.str "ok") H') ∧
  (due ps ts d ≠ "ok" → ∀ H', Same H H' → Q (.str (due ps ts d)) H')
theorem due_words (ps : List Str) (ts : List Tie) (d : Deed) (h : due ps ts d ≠ "ok") : due ps ts d = "twice" ∨ due ps ts d = "many" ∨ due ps ts d = "place" ∨ due ps ts d = "tie" := by
  cases d with
  | come a =>
    simp only [due] at h ⊢
    split
    · exact .inl rfl
    · rename_i h1
      rw [if_neg h1] at h
      split
      · exact .inr (.inl rfl)
      · rename_i h2
        rw [if_neg h2] at h
        exact absurd rfl h
  | go a =>
    simp only [due] at h ⊢
    split
    · rename_i h1
      rw [if_pos h1] at h
      exact absurd rfl h
    · exact .inr (.inr (.inl rfl))
  | far a b =>
    simp only [due] at h ⊢
    split
    · rename_i h1
      rw [if_pos h1] at h
      exact absurd rfl h
    · exact .inr (.inr (.inl rfl))
  | lay a b n =>
    simp only [due] at h ⊢
    split
    · rename_i h1
      rw [if_pos h1] at h
      split
      · exact .inr (.inr (.inr rfl))
      · rename_i h2
        rw [if_neg h2] at h
        split
        · exact .inr (.inl rfl)
        · rename_i h3
          rw [if_neg h3] at h
          exact absurd rfl h
    · exact .inr (.inr (.inl rfl))
  | take a b =>
    simp only [due] at h ⊢
    split
    · rename_i h1
      rw [if_pos h1] at h
      split
      · rename_i h2
        rw [if_pos h2] at h
        exact absurd rfl h
      · exact .inr (.inr (.inr rfl))
    · exact .inr (.inr (.inl rfl))
abbrev sTried : Stmt := topS 49
abbrev nTr : List Str := ["_law_keeper", "_law_deed_here", "_law_caught", "e"]
section
variable {P : Program} {w : World} {K : PySem.W.Frag} {mg : Str → Option Value} {base : Heap} {er : Str → Addr}
theorem scTr : FnScope nTr ["_law_keeper", "_law_deed_here"] (defScope sTried) := ⟨rfl, rfl, rfl, by decide +kernel, rfl, by decide +kernel, by decide +kernel⟩
theorem ok_tried {f C ct fT fS : Addr} {fd fdT fdS : FuncData} (A : At K mg "_law_tried" "_law_tried" sTried f fd) (TT : At K mg "_law_told" "_law_told" sTold fT fdT) (bT : Binds K fdT ["_law_keeper", "_law_deed_here"] [])
    (GT : FnOk P w K mg base (L2.CX P w) 8 fT fdT ["_law_keeper", "_law_deed_here"] (spTold K C er)) (SS : At K mg "_law_sort" "_law_sort" sSort fS fdS) (bS : Binds K fdS ["_law_caught"] []) (GS : FnOk P w K mg base CX0 1 fS fdS ["_law_caught"] (spSortE er))
    (gt : mg "ThinError" = some (.ref ct)) (ex : ∀ z : Str, (z = "twice" ∨ z = "many" ∨ z = "place" ∨ z = "tie") → PySem.W.exmOne K (.ref (er z)) (.ref ct) = some true) : FnOk P w K mg base CX0 9 f fd ["_law_keeper", "_law_deed_here"] (spTried K C) := by
  refine A.F.ok scTr (fun vs H Q E h => ?_) (fun cdv A outer s H vs Q E hr8 h => ?_)
  · obtain ⟨p, da, ps, ts, ks, d, rfl, _⟩ := h
    rfl
  · obtain ⟨p, da, ps, ts, ks, d, rfl, KA, N, hd, fine, good, bad⟩ := h
    have hr1 : Room 1 _ := hr8.mono (by decide)
    refine ⟨_, (pss_cons (ps_set (i := 2) scTr.nd rfl (Or.inl rfl) pe_non) (pss_cons (ps_try_asT (i := 3) (tb := fun W => tDrop (tCallS (spTold K C er) (WE W) (tCons (tVar 0) (tCons (tVar 1) tNil)))) (ts := fun _ _ => tAsg (tVar 3) (gName 2)) rfl rfl rfl scTr.nd rfl rfl ⟨rfl, by decide, Or.inl gt⟩ (fun W pn xe tk _ => pss_one (ps_expr (by exact pe_callS GT hr8 rfl TT.g TT.F.kp bT (fun σ => passAt tk σ) (by exact (pa_cons (pv 0) (pa_cons (pv 1) pa_nil)))))) (fun a cls pn => pss_one (ps_set (i := 2) scTr.nd rfl (Or.inl rfl) (by exact pv 3)))) (pss_one (ps_ret (pe_ifExp (pt_cmpR op_isN (pv 2) pe_non (nomark _)) pe_str (pe_call GS hr1 (by rfl) SS.g SS.F.kp bS .nil pass0 (pa_cons (pv 2) pa_nil))))))), ?_⟩
    refine ⟨_, rfl, _, rfl, p, da, ps, ts, ks, d, rfl, KA, N, hd, fine, fun isok H' r ps' ts' ks' b k a f => ?_, fun nok H' s1 => ⟨ex _ (due_words _ _ _ nok), rfl, fun x nx => ?_⟩⟩
    · refine ⟨_, rfl, rfl, _, rfl, ?_⟩
      exact iteT (good isok H' ps' ts' ks' b k a f)
    · refine ⟨_, rfl, ?_⟩
      refine ⟨_, rfl, rfl, _, rfl, ?_⟩
      refine iteF ?_
      have s2 := same_upd (o := HeldE (.ref (er (due ps ts d))) x) nx
      exact ⟨_, rfl, x, due ps ts d, rfl, upd_same, due_words _ _ _ nok, fun H2 s3 => bad nok H2 (s1.trans (s2.trans s3))⟩
end
end L2.T
set_option maxHeartbeats 2000000
namespace L2.T
open PySem PySem.Spec PyProof.Rows
open PySem.W (dataLt dataLe alike AllAlike Sortable EachIs)
open Thin
def inPool : Deed → Prop
  | .come a => a ∈ pool
  | .go a => a ∈ pool
  | .far a b => a ∈ pool ∧ b ∈ pool
  | .lay a b _ => a ∈ pool ∧ b ∈ pool
  | .take a b => a ∈ pool ∧ b ∈ pool
theorem one_in {a : Str} (h : a ∈ pool) : ∀ x ∈ ([a] : List Str), x ∈ pool := fun x hx => by
  rw [List.mem_singleton.mp hx]; exact h
theorem both_in {a b : Str} (h : a ∈ pool ∧ b ∈ pool) : ∀ x ∈ ([a, b] : List Str), x ∈ pool := fun x hx => by
  rcases List.mem_cons.mp hx with e | e
  · rw [e]; exact h.1
  · rw [List.mem_singleton.mp e]; exact h.2
theorem fil1 (a : Str) (lps : List Str) : (([a] : List Str).filter (fun x => decide (¬ x ∈ lps)) = []) ↔ a ∈ lps := by
  rw [List.filter_eq_nil_iff]
  constructor
  · intro h
    have q := h a List.mem_cons_self
    by_cases z : a ∈ lps
    · exact z
    · exact absurd (decide_eq_true z) q
  · intro h x hx
    rw [List.mem_singleton.mp hx]
    simp [h]
theorem fil2 (a b : Str) (lps : List Str) : (([a, b] : List Str).filter (fun x => decide (¬ x ∈ lps)) = []) ↔ (a ∈ lps ∧ b ∈ lps) := by
  rw [List.filter_eq_nil_iff]
  constructor
  · intro h
    have q1 := h a List.mem_cons_self
    have q2 := h b (List.mem_cons_of_mem _ List.mem_cons_self)
    constructor
    · by_cases z : a ∈ lps
      · exact z
      · exact absurd (decide_eq_true z) q1
    · by_cases z : b ∈ lps
      · exact z
      · exact absurd (decide_eq_true z) q2
  · rintro ⟨h1, h2⟩ x hx
    rcases List.mem_cons.mp hx with e | e
    · rw [e]; simp [h1]
    · rw [List.mem_singleton.mp e]; simp [h2]
def spDue (K : PySem.W.Frag) : Sp := fun vs H Q _ => ∃ (D L T da : Addr) (lps : List Str) (es : List Tie) (d : Deed), vs = [.ref D, .ref da] ∧ StateAt H D L T lps es ∧ SqT K H da (dvs d) ∧ inPool d ∧ lps.length ≤ 24 ∧ es.length ≤ 60 ∧
  ∀ H', Same H H' → Q (.str (due lps es d)) H'
abbrev sDue : Stmt := topS 50
abbrev nDue : List Str := ["_law_state", "_law_deed_here", "_law_places_here", "_law_ties", "_law_joined", "_law_name"]
section
variable {P : Program} {w : World} {K : PySem.W.Frag} {mg : Str → Option Value} {base : Heap}
theorem scDu : FnScope nDue ["_law_state", "_law_deed_here"] (defScope sDue) := ⟨rfl, rfl, rfl, by decide +kernel, rfl, by decide +kernel, by decide +kernel⟩
theorem ok_due {f fP : Addr} {fd fdP : FuncData} (A : At K mg "_law_due" "_law_due" sDue f fd) (PR : At K mg "_law_pair" "_law_pair" sPair fP fdP) (bP : Binds K fdP ["_law_a", "_law_b"] []) (B : Blt mg) : FnOk P w K mg base CX0 2 f fd ["_law_state", "_law_deed_here"] (spDue K) := by
  have GP : FnOk P w K mg base CX0 1 fP fdP ["_law_a", "_law_b"] (spPair K) := ok_pair PR B
  refine A.F.ok scDu (fun vs H Q E h => ?_) (fun cdv A outer s H vs Q E hr h => ?_)
  · obtain ⟨D, L, T, da, lps, es, d, rfl, _⟩ := h
    rfl
  · obtain ⟨D, L, T, da, lps, es, d, rfl, SS, hd, pin, few1, few2, k⟩ := h
    have hu := hu_of hr
    refine ⟨_, (pss_cons (ps_asg (pe_tup (pa_cons (pe_dget hu (pv 0) pe_str (fun _ _ => rfl)) (pa_cons (pe_dget hu (pv 0) pe_str (fun _ _ => rfl)) pa_nil))) (pg_tup (by rfl) (pgs_cons (pg_name (i := 2) scDu.nd rfl (Or.inr rfl)) (pgs_cons (pg_name (i := 3) scDu.nd rfl (Or.inl rfl)) pgs_nil)))) (pss_cons (ps_if (pt_cmpR op_eq (pe_ix ix_tup (pv 1) pe_int (fun _ _ => rfl)) pe_str (nomark _)) (pss_cons (ps_if (pt_cmpR op_in_seq (pe_ix ix_tup (pv 1) pe_int (fun _ _ => rfl)) (pv 2) (by rfl)) (pss_one (ps_ret pe_str)) pss_nil) (pss_one (ps_ret (pe_ifExp (pt_cmpR op_eq (pe_callB call_len_seq (by rfl) B.len PySem.boot_len (pa_cons (pv 2) pa_nil)) pe_int (nomark _)) pe_str pe_str)))) pss_nil) (pss_cons (ps_if (pt_cmpR (op_neD hr.units) (pe_lc (own := [("_law_name", 5)]) (g := gName 5) (by rfl) scDu.nd (pi_tup (pe_slice sl_tup (pv 1) (po_some pe_int) (po_some pe_int))) (blkOk_by (N := nDue) (sc := defScope sDue) (by decide +kernel)) (fun _ _ _ _ _ => pg_name (i := 5) scDu.nd rfl (Or.inl rfl)) (fun _ _ _ _ _ => pts_one (pt_cmpR (r := rIn K true) op_notIn_seq (pv 5) (pv 2) (by rfl))) (fun _ _ _ _ _ => pv 5)) (pe_lst pa_nil) (nomark _)) (pss_one (ps_ret pe_str)) pss_nil) (pss_cons (ps_if (pt_cmpR op_in_seq (pe_ix ix_tup (pv 1) pe_int (fun _ _ => rfl)) (pe_tup (pa_cons pe_str (pa_cons pe_str pa_nil))) (by rfl)) (pss_one (ps_ret pe_str)) pss_nil) (pss_cons (ps_set (i := 4) scDu.nd rfl (Or.inl rfl) (pe_cmp (pc_din hu (pe_call GP hr (by rfl) PR.g PR.F.kp bP .nil pass0 (pa_cons (pe_ix ix_tup (pv 1) pe_int (fun _ _ => rfl)) (pa_cons (pe_ix ix_tup (pv 1) pe_int (fun _ _ => rfl)) pa_nil))) (pv 3)) rfl)) (pss_cons (ps_if (pt_cmpR op_eq (pe_ix ix_tup (pv 1) pe_int (fun _ _ => rfl)) pe_str (nomark _)) (pss_one (ps_ret (pe_ifExp (pt_val (pv 4)) pe_str pe_str))) pss_nil) (pss_cons (ps_if (pt_cmpR op_eq (pe_ix ix_tup (pv 1) pe_int (fun _ _ => rfl)) (pe_ix ix_tup (pv 1) pe_int (fun _ _ => rfl)) (nomark _)) (pss_one (ps_ret pe_str)) pss_nil) (pss_one (ps_ret (pe_ifExp (PW.pt (pw_and (pt_not (pt_val (pv 4))) (pw_and1 (pt_cmpR op_eq (pe_callB call_len_dT (by rfl) B.len PySem.boot_len (pa_cons (pv 3) pa_nil)) pe_int (nomark _))))) pe_str pe_str)))))))))), ?_⟩
    have gP : DGet H D (.str "places") (some (.ref L)) := by rw [← st_pl L T]; exact DGet.k (k := Sum.inr "places") SS.d
    have gT : DGet H D (.str "ties") (some (.ref T)) := by rw [← st_ti L T]; exact DGet.k (k := Sum.inr "ties") SS.d
    refine ⟨_, rfl, D, _, rfl, gP, _, rfl, D, _, rfl, gT, (by show 2 ≤ sizeLine; decide), fun u nu => ⟨u, _, rfl, SqT.of upd_same, rfl, _, _, rfl, _, _, rfl, rfl, ?_⟩⟩
    have s1 : Same H (upd H u (.tup [.ref L, .ref T])) := same_upd nu
    generalize upd H u (.tup [.ref L, .ref T]) = H1 at s1
    have hd1 := seqT_same s1 hd
    cases d with
    | come a =>
      refine ⟨_, rfl, da, _, _, _, rfl, rfl, hd1, rfl, rfl, _, rfl, iteE ?_⟩
      have q := inV_strs a lps
      refine ⟨_, rfl, da, _, _, _, rfl, rfl, hd1, rfl, _, rfl, L, _, rfl, .inl (SqL.of (s1 _ _ SS.l)), rfl, flat_strs lps, _, rfl, ?_⟩
      refine ite2 (fun c => ?_) (fun c => ?_)
      · have hin : a ∈ lps := by
          by_cases z : a ∈ lps
          · exact z
          · rw [if_neg Bool.false_ne_true, q, decide_eq_false z] at c
            cases c
        have e : due lps es (.come a) = "twice" := by simp only [due]; rw [if_pos hin]
        rw [← e]
        exact k H1 s1
      · have nin : ¬ a ∈ lps := fun z => c (by rw [if_neg Bool.false_ne_true, q]; exact decide_eq_true z)
        refine ⟨_, rfl, L, _, rfl, .inl (SqL.of (s1 _ _ SS.l)), rfl, _, rfl, ?_⟩
        refine ite2 (fun c2 => ?_) (fun c2 => ?_)
        · have e24 : lps.length = 24 := by
            have z := of_decide_eq_true c2
            injection z with z
            rw [List.length_map] at z
            omega
          have e : due lps es (.come a) = "many" := by simp only [due]; rw [if_neg nin, if_pos e24]
          rw [← e]
          exact k H1 s1
        · have n24 : ¬ lps.length = 24 := fun z => c2 (decide_eq_true (by rw [List.length_map, z]; rfl))
          have e : due lps es (.come a) = "ok" := by simp only [due]; rw [if_neg nin, if_neg n24]
          rw [← e]
          exact k H1 s1
    | go a =>
      refine ⟨_, rfl, da, _, _, _, rfl, rfl, hd1, rfl, rfl, _, rfl, iteW w_gc ?_⟩
      refine ⟨_, rfl, _, rfl, _, rfl, da, _, rfl, hd1, (by show ¬ (HT.sIx 2 0 (some 1) = 0 ∧ HT.sIx 2 2 (some 3) = 2); decide), fun q nq => ⟨q, rfl, ⟨_, SqT.of upd_same⟩, fun D2 nD2 => ?_⟩⟩
      have ec : cutV (dvs (.go a)) (some 1) (some 3) = ([a] : List Str).map V.str := rfl
      have s2 : Same H1 (upd H1 q (.tup (cutV (dvs (.go a)) (some 1) (some 3)))) := same_upd nq
      have hq : (upd H1 q (.tup (cutV (dvs (.go a)) (some 1) (some 3)))) q = some (.tup (cutV (dvs (.go a)) (some 1) (some 3))) := upd_same
      generalize upd H1 q (.tup (cutV (dvs (.go a)) (some 1) (some 3))) = H2 at s2 hq nD2
      have s02 := s1.trans s2
      refine lc_tup (K := K) (a := q) (xs := ([a] : List Str).map V.str) (PickF K H2 D2 PyData.str [a] (fun x => decide (¬ x ∈ lps))) (pickF_start nD2) (fun i H5 _ ⟨_, s5, _⟩ => SqT.of (s5 _ _ (by rw [← ec]; exact hq))) ?_ ?_
      · intro i y H5 hi Pk
        obtain ⟨_, s5, _⟩ := id Pk
        rw [List.getElem?_map] at hi
        cases e : ([a] : List Str)[i]? with
        | none => rw [e] at hi; cases hi
        | some x =>
          rw [e] at hi
          obtain rfl : V.str x = y := Option.some.inj hi
          have hil := (List.getElem?_eq_some_iff.mp e).1
          have hil2 : i < 2 := Nat.lt_of_lt_of_le hil (by simp)
          have q2 := inV_strs x lps
          refine ⟨rfl, _, rfl, _, rfl, L, _, rfl, .inl (SqL.of (s5 _ _ (s02 _ _ SS.l))), rfl, flat_strs lps, _, rfl, ?_⟩
          refine ite2 (fun c => ?_) (fun c => ?_)
          · have nx : ¬ x ∈ lps := fun z => by
              rw [if_pos rfl, q2, decide_eq_true z] at c
              cases c
            exact ⟨_, rfl, pickF_on nD2 Pk (Same.refl _) e (decide_eq_true nx) (.str x) strs_noL (by omega)⟩
          · have ix : x ∈ lps := by
              by_cases z : x ∈ lps
              · exact z
              · exact absurd (by rw [if_pos rfl, q2, decide_eq_false z]; rfl) c
            exact pickF_no Pk (Same.refl _) e (decide_eq_false fun z => z ix)
      · rintro H5 ⟨ys, s5, hD5, dp5⟩
        rw [List.length_map, List.take_length] at dp5
        refine ⟨(by show 0 ≤ sizeLine; decide), fun e ne => ?_⟩
        have s6 : Same H5 (upd H5 e (.lst [])) := same_upd ne
        refine ⟨.list ((([a] : List Str).filter (fun x => decide (¬ x ∈ lps))).map PyData.str), .list [], .lst (SqL.of (s6 _ _ hD5)) (DpAll_same s6 dp5), .lst (SqL.of upd_same) .nil, list_shaped (strs_lay _ fun x hx => (one_in pin) x (List.mem_filter.mp hx).1), void_shaped, _, rfl, ?_⟩
        rw [eqv_void]
        have s06 := s02.trans (s5.trans s6)
        have hd6 := seqT_same s06 hd
        generalize upd H5 e (.lst []) = H6 at s6 s06 hd6
        have fil : (([a] : List Str).filter (fun x => decide (¬ x ∈ lps)) = []) ↔ a ∈ lps := fil1 a lps
        refine ite2 (fun z => ?_) (fun z => ?_)
        · have nin : ¬ a ∈ lps := fun hi => by
            rw [decide_eq_true (fil.mpr hi)] at z
            cases z
          have e : due lps es (.go a) = "place" := by simp only [due]; rw [if_neg nin]
          rw [← e]
          exact k H6 s06
        · have hin : a ∈ lps := by
            by_cases hi : a ∈ lps
            · exact hi
            · exact absurd (by rw [decide_eq_false fun y => hi (fil.mp y)]; rfl) z
          refine ⟨_, rfl, da, _, _, _, rfl, rfl, hd6, rfl, (by show 2 ≤ sizeLine; decide), fun q7 nq7 => ?_⟩
          have s7 : Same H6 (upd H6 q7 (.tup [.str "go", .str "far"])) := same_upd nq7
          refine ⟨q7, _, rfl, .inr (SqT.of upd_same), rfl, rfl, _, rfl, ?_⟩
          have s07 := s06.trans s7
          have hd7 := seqT_same s7 hd6
          generalize upd H6 q7 (.tup [.str "go", .str "far"]) = H7 at s7 s07 hd7
          refine ite2 (fun _ => ?_) (fun c => absurd (by decide +kernel) c)
          have e : due lps es (.go a) = "ok" := by simp only [due]; rw [if_pos hin]
          rw [← e]
          exact k H7 s07
    | far a b =>
      refine ⟨_, rfl, da, _, _, _, rfl, rfl, hd1, rfl, rfl, _, rfl, iteW w_fc ?_⟩
      refine ⟨_, rfl, _, rfl, _, rfl, da, _, rfl, hd1, (by show ¬ (HT.sIx 3 0 (some 1) = 0 ∧ HT.sIx 3 3 (some 3) = 3); decide), fun q nq => ⟨q, rfl, ⟨_, SqT.of upd_same⟩, fun D2 nD2 => ?_⟩⟩
      have ec : cutV (dvs (.far a b)) (some 1) (some 3) = ([a, b] : List Str).map V.str := rfl
      have s2 : Same H1 (upd H1 q (.tup (cutV (dvs (.far a b)) (some 1) (some 3)))) := same_upd nq
      have hq : (upd H1 q (.tup (cutV (dvs (.far a b)) (some 1) (some 3)))) q = some (.tup (cutV (dvs (.far a b)) (some 1) (some 3))) := upd_same
      generalize upd H1 q (.tup (cutV (dvs (.far a b)) (some 1) (some 3))) = H2 at s2 hq nD2
      have s02 := s1.trans s2
      refine lc_tup (K := K) (a := q) (xs := ([a, b] : List Str).map V.str) (PickF K H2 D2 PyData.str [a, b] (fun x => decide (¬ x ∈ lps))) (pickF_start nD2) (fun i H5 _ ⟨_, s5, _⟩ => SqT.of (s5 _ _ (by rw [← ec]; exact hq))) ?_ ?_
      · intro i y H5 hi Pk
        obtain ⟨_, s5, _⟩ := id Pk
        rw [List.getElem?_map] at hi
        cases e : ([a, b] : List Str)[i]? with
        | none => rw [e] at hi; cases hi
        | some x =>
          rw [e] at hi
          obtain rfl : V.str x = y := Option.some.inj hi
          have hil := (List.getElem?_eq_some_iff.mp e).1
          have hil2 : i < 2 := Nat.lt_of_lt_of_le hil (by simp)
          have q2 := inV_strs x lps
          refine ⟨rfl, _, rfl, _, rfl, L, _, rfl, .inl (SqL.of (s5 _ _ (s02 _ _ SS.l))), rfl, flat_strs lps, _, rfl, ?_⟩
          refine ite2 (fun c => ?_) (fun c => ?_)
          · have nx : ¬ x ∈ lps := fun z => by
              rw [if_pos rfl, q2, decide_eq_true z] at c
              cases c
            exact ⟨_, rfl, pickF_on nD2 Pk (Same.refl _) e (decide_eq_true nx) (.str x) strs_noL (by omega)⟩
          · have ix : x ∈ lps := by
              by_cases z : x ∈ lps
              · exact z
              · exact absurd (by rw [if_pos rfl, q2, decide_eq_false z]; rfl) c
            exact pickF_no Pk (Same.refl _) e (decide_eq_false fun z => z ix)
      · rintro H5 ⟨ys, s5, hD5, dp5⟩
        rw [List.length_map, List.take_length] at dp5
        refine ⟨(by show 0 ≤ sizeLine; decide), fun e ne => ?_⟩
        have s6 : Same H5 (upd H5 e (.lst [])) := same_upd ne
        refine ⟨.list ((([a, b] : List Str).filter (fun x => decide (¬ x ∈ lps))).map PyData.str), .list [], .lst (SqL.of (s6 _ _ hD5)) (DpAll_same s6 dp5), .lst (SqL.of upd_same) .nil, list_shaped (strs_lay _ fun x hx => (both_in pin) x (List.mem_filter.mp hx).1), void_shaped, _, rfl, ?_⟩
        rw [eqv_void]
        have s06 := s02.trans (s5.trans s6)
        have hd6 := seqT_same s06 hd
        generalize upd H5 e (.lst []) = H6 at s6 s06 hd6
        have fil : (([a, b] : List Str).filter (fun x => decide (¬ x ∈ lps)) = []) ↔ (a ∈ lps ∧ b ∈ lps) := fil2 a b lps
        refine ite2 (fun z => ?_) (fun z => ?_)
        · have nin : ¬ (a ∈ lps ∧ b ∈ lps) := fun hi => by
            rw [decide_eq_true (fil.mpr hi)] at z
            cases z
          have e : due lps es (.far a b) = "place" := by simp only [due]; rw [if_neg nin]
          rw [← e]
          exact k H6 s06
        · have hin : (a ∈ lps ∧ b ∈ lps) := by
            by_cases hi : (a ∈ lps ∧ b ∈ lps)
            · exact hi
            · exact absurd (by rw [decide_eq_false fun y => hi (fil.mp y)]; rfl) z
          refine ⟨_, rfl, da, _, _, _, rfl, rfl, hd6, rfl, (by show 2 ≤ sizeLine; decide), fun q7 nq7 => ?_⟩
          have s7 : Same H6 (upd H6 q7 (.tup [.str "go", .str "far"])) := same_upd nq7
          refine ⟨q7, _, rfl, .inr (SqT.of upd_same), rfl, rfl, _, rfl, ?_⟩
          have s07 := s06.trans s7
          have hd7 := seqT_same s7 hd6
          generalize upd H6 q7 (.tup [.str "go", .str "far"]) = H7 at s7 s07 hd7
          refine ite2 (fun _ => ?_) (fun c => absurd (by decide +kernel) c)
          have e : due lps es (.far a b) = "ok" := by simp only [due]; rw [if_pos hin]
          rw [← e]
          exact k H7 s07
    | take a b =>
      refine ⟨_, rfl, da, _, _, _, rfl, rfl, hd1, rfl, rfl, _, rfl, iteW w_tc ?_⟩
      refine ⟨_, rfl, _, rfl, _, rfl, da, _, rfl, hd1, (by show ¬ (HT.sIx 3 0 (some 1) = 0 ∧ HT.sIx 3 3 (some 3) = 3); decide), fun q nq => ⟨q, rfl, ⟨_, SqT.of upd_same⟩, fun D2 nD2 => ?_⟩⟩
      have ec : cutV (dvs (.take a b)) (some 1) (some 3) = ([a, b] : List Str).map V.str := rfl
      have s2 : Same H1 (upd H1 q (.tup (cutV (dvs (.take a b)) (some 1) (some 3)))) := same_upd nq
      have hq : (upd H1 q (.tup (cutV (dvs (.take a b)) (some 1) (some 3)))) q = some (.tup (cutV (dvs (.take a b)) (some 1) (some 3))) := upd_same
      generalize upd H1 q (.tup (cutV (dvs (.take a b)) (some 1) (some 3))) = H2 at s2 hq nD2
      have s02 := s1.trans s2
      refine lc_tup (K := K) (a := q) (xs := ([a, b] : List Str).map V.str) (PickF K H2 D2 PyData.str [a, b] (fun x => decide (¬ x ∈ lps))) (pickF_start nD2) (fun i H5 _ ⟨_, s5, _⟩ => SqT.of (s5 _ _ (by rw [← ec]; exact hq))) ?_ ?_
      · intro i y H5 hi Pk
        obtain ⟨_, s5, _⟩ := id Pk
        rw [List.getElem?_map] at hi
        cases e : ([a, b] : List Str)[i]? with
        | none => rw [e] at hi; cases hi
        | some x =>
          rw [e] at hi
          obtain rfl : V.str x = y := Option.some.inj hi
          have hil := (List.getElem?_eq_some_iff.mp e).1
          have hil2 : i < 2 := Nat.lt_of_lt_of_le hil (by simp)
          have q2 := inV_strs x lps
          refine ⟨rfl, _, rfl, _, rfl, L, _, rfl, .inl (SqL.of (s5 _ _ (s02 _ _ SS.l))), rfl, flat_strs lps, _, rfl, ?_⟩
          refine ite2 (fun c => ?_) (fun c => ?_)
          · have nx : ¬ x ∈ lps := fun z => by
              rw [if_pos rfl, q2, decide_eq_true z] at c
              cases c
            exact ⟨_, rfl, pickF_on nD2 Pk (Same.refl _) e (decide_eq_true nx) (.str x) strs_noL (by omega)⟩
          · have ix : x ∈ lps := by
              by_cases z : x ∈ lps
              · exact z
              · exact absurd (by rw [if_pos rfl, q2, decide_eq_false z]; rfl) c
            exact pickF_no Pk (Same.refl _) e (decide_eq_false fun z => z ix)
      · rintro H5 ⟨ys, s5, hD5, dp5⟩
        rw [List.length_map, List.take_length] at dp5
        refine ⟨(by show 0 ≤ sizeLine; decide), fun e ne => ?_⟩
        have s6 : Same H5 (upd H5 e (.lst [])) := same_upd ne
        refine ⟨.list ((([a, b] : List Str).filter (fun x => decide (¬ x ∈ lps))).map PyData.str), .list [], .lst (SqL.of (s6 _ _ hD5)) (DpAll_same s6 dp5), .lst (SqL.of upd_same) .nil, list_shaped (strs_lay _ fun x hx => (both_in pin) x (List.mem_filter.mp hx).1), void_shaped, _, rfl, ?_⟩
        rw [eqv_void]
        have s06 := s02.trans (s5.trans s6)
        have hd6 := seqT_same s06 hd
        generalize upd H5 e (.lst []) = H6 at s6 s06 hd6
        have fil : (([a, b] : List Str).filter (fun x => decide (¬ x ∈ lps)) = []) ↔ (a ∈ lps ∧ b ∈ lps) := fil2 a b lps
        refine ite2 (fun z => ?_) (fun z => ?_)
        · have nin : ¬ (a ∈ lps ∧ b ∈ lps) := fun hi => by
            rw [decide_eq_true (fil.mpr hi)] at z
            cases z
          have e : due lps es (.take a b) = "place" := by simp only [due]; rw [if_neg nin]
          rw [← e]
          exact k H6 s06
        · have hin : (a ∈ lps ∧ b ∈ lps) := by
            by_cases hi : (a ∈ lps ∧ b ∈ lps)
            · exact hi
            · exact absurd (by rw [decide_eq_false fun y => hi (fil.mp y)]; rfl) z
          refine ⟨_, rfl, da, _, _, _, rfl, rfl, hd6, rfl, (by show 2 ≤ sizeLine; decide), fun q7 nq7 => ?_⟩
          have s7 : Same H6 (upd H6 q7 (.tup [.str "go", .str "far"])) := same_upd nq7
          refine ⟨q7, _, rfl, .inr (SqT.of upd_same), rfl, rfl, _, rfl, ?_⟩
          have s07 := s06.trans s7
          have hd7 := seqT_same s7 hd6
          generalize upd H6 q7 (.tup [.str "go", .str "far"]) = H7 at s7 s07 hd7
          refine ite2 (fun c => absurd c (by decide +kernel)) (fun _ => ?_)
          refine ⟨_, rfl, da, _, _, _, rfl, rfl, hd7, rfl, _, rfl, da, _, _, _, rfl, rfl, hd7, rfl, a, b, rfl, fun H8 q8 s8 hq8 => ?_⟩
          have s08 := s07.trans s8
          have hd8 := seqT_same s8 hd7
          have S8 := SS.same s08
          refine ⟨_, rfl, T, _, rfl, DGet.t (k := kk (pr a b)) S8.t hq8, ?_⟩
          have ej : (valV (tab es) (kk (pr a b))).isSome = joined (pr a b) es := by rw [tab_val, Option.isSome_map, look_some]
          rw [ej]
          refine ⟨_, rfl, da, _, _, _, rfl, rfl, hd8, rfl, rfl, _, rfl, iteE ?_⟩
          refine ⟨_, rfl, _, rfl, ?_⟩
          cases j : joined (pr a b) es with
          | true =>
            refine iteT ?_
            have e : due lps es (.take a b) = "ok" := by simp only [due]; rw [if_pos hin, if_pos j]
            rw [← e]
            exact k H8 s08
          | false =>
            refine iteF ?_
            have e : due lps es (.take a b) = "tie" := by simp only [due]; rw [if_pos hin, if_neg (by rw [j]; exact Bool.false_ne_true)]
            rw [← e]
            exact k H8 s08
    | lay a b n =>
      refine ⟨_, rfl, da, _, _, _, rfl, rfl, hd1, rfl, rfl, _, rfl, iteW w_lc ?_⟩
      refine ⟨_, rfl, _, rfl, _, rfl, da, _, rfl, hd1, (by show ¬ (HT.sIx 4 0 (some 1) = 0 ∧ HT.sIx 4 4 (some 3) = 4); decide), fun q nq => ⟨q, rfl, ⟨_, SqT.of upd_same⟩, fun D2 nD2 => ?_⟩⟩
      have ec : cutV (dvs (.lay a b n)) (some 1) (some 3) = ([a, b] : List Str).map V.str := rfl
      have s2 : Same H1 (upd H1 q (.tup (cutV (dvs (.lay a b n)) (some 1) (some 3)))) := same_upd nq
      have hq : (upd H1 q (.tup (cutV (dvs (.lay a b n)) (some 1) (some 3)))) q = some (.tup (cutV (dvs (.lay a b n)) (some 1) (some 3))) := upd_same
      generalize upd H1 q (.tup (cutV (dvs (.lay a b n)) (some 1) (some 3))) = H2 at s2 hq nD2
      have s02 := s1.trans s2
      refine lc_tup (K := K) (a := q) (xs := ([a, b] : List Str).map V.str) (PickF K H2 D2 PyData.str [a, b] (fun x => decide (¬ x ∈ lps))) (pickF_start nD2) (fun i H5 _ ⟨_, s5, _⟩ => SqT.of (s5 _ _ (by rw [← ec]; exact hq))) ?_ ?_
      · intro i y H5 hi Pk
        obtain ⟨_, s5, _⟩ := id Pk
        rw [List.getElem?_map] at hi
        cases e : ([a, b] : List Str)[i]? with
        | none => rw [e] at hi; cases hi
        | some x =>
          rw [e] at hi
          obtain rfl : V.str x = y := Option.some.inj hi
          have hil := (List.getElem?_eq_some_iff.mp e).1
          have hil2 : i < 2 := Nat.lt_of_lt_of_le hil (by simp)
          have q2 := inV_strs x lps
          refine ⟨rfl, _, rfl, _, rfl, L, _, rfl, .inl (SqL.of (s5 _ _ (s02 _ _ SS.l))), rfl, flat_strs lps, _, rfl, ?_⟩
          refine ite2 (fun c => ?_) (fun c => ?_)
          · have nx : ¬ x ∈ lps := fun z => by
              rw [if_pos rfl, q2, decide_eq_true z] at c
              cases c
            exact ⟨_, rfl, pickF_on nD2 Pk (Same.refl _) e (decide_eq_true nx) (.str x) strs_noL (by omega)⟩
          · have ix : x ∈ lps := by
              by_cases z : x ∈ lps
              · exact z
              · exact absurd (by rw [if_pos rfl, q2, decide_eq_false z]; rfl) c
            exact pickF_no Pk (Same.refl _) e (decide_eq_false fun z => z ix)
      · rintro H5 ⟨ys, s5, hD5, dp5⟩
        rw [List.length_map, List.take_length] at dp5
        refine ⟨(by show 0 ≤ sizeLine; decide), fun e ne => ?_⟩
        have s6 : Same H5 (upd H5 e (.lst [])) := same_upd ne
        refine ⟨.list ((([a, b] : List Str).filter (fun x => decide (¬ x ∈ lps))).map PyData.str), .list [], .lst (SqL.of (s6 _ _ hD5)) (DpAll_same s6 dp5), .lst (SqL.of upd_same) .nil, list_shaped (strs_lay _ fun x hx => (both_in pin) x (List.mem_filter.mp hx).1), void_shaped, _, rfl, ?_⟩
        rw [eqv_void]
        have s06 := s02.trans (s5.trans s6)
        have hd6 := seqT_same s06 hd
        generalize upd H5 e (.lst []) = H6 at s6 s06 hd6
        have fil : (([a, b] : List Str).filter (fun x => decide (¬ x ∈ lps)) = []) ↔ (a ∈ lps ∧ b ∈ lps) := fil2 a b lps
        refine ite2 (fun z => ?_) (fun z => ?_)
        · have nin : ¬ (a ∈ lps ∧ b ∈ lps) := fun hi => by
            rw [decide_eq_true (fil.mpr hi)] at z
            cases z
          have e : due lps es (.lay a b n) = "place" := by simp only [due]; rw [if_neg nin]
          rw [← e]
          exact k H6 s06
        · have hin : (a ∈ lps ∧ b ∈ lps) := by
            by_cases hi : (a ∈ lps ∧ b ∈ lps)
            · exact hi
            · exact absurd (by rw [decide_eq_false fun y => hi (fil.mp y)]; rfl) z
          refine ⟨_, rfl, da, _, _, _, rfl, rfl, hd6, rfl, (by show 2 ≤ sizeLine; decide), fun q7 nq7 => ?_⟩
          have s7 : Same H6 (upd H6 q7 (.tup [.str "go", .str "far"])) := same_upd nq7
          refine ⟨q7, _, rfl, .inr (SqT.of upd_same), rfl, rfl, _, rfl, ?_⟩
          have s07 := s06.trans s7
          have hd7 := seqT_same s7 hd6
          generalize upd H6 q7 (.tup [.str "go", .str "far"]) = H7 at s7 s07 hd7
          refine ite2 (fun c => absurd c (by decide +kernel)) (fun _ => ?_)
          refine ⟨_, rfl, da, _, _, _, rfl, rfl, hd7, rfl, _, rfl, da, _, _, _, rfl, rfl, hd7, rfl, a, b, rfl, fun H8 q8 s8 hq8 => ?_⟩
          have s08 := s07.trans s8
          have hd8 := seqT_same s8 hd7
          have S8 := SS.same s08
          refine ⟨_, rfl, T, _, rfl, DGet.t (k := kk (pr a b)) S8.t hq8, ?_⟩
          have ej : (valV (tab es) (kk (pr a b))).isSome = joined (pr a b) es := by rw [tab_val, Option.isSome_map, look_some]
          rw [ej]
          refine ⟨_, rfl, da, _, _, _, rfl, rfl, hd8, rfl, rfl, _, rfl, iteW w_lt ?_⟩
          refine ⟨_, rfl, da, _, _, _, rfl, rfl, hd8, rfl, _, rfl, da, _, _, _, rfl, rfl, hd8, rfl, rfl, _, rfl, ?_⟩
          refine ite2 (fun c => ?_) (fun c => ?_)
          · have ab : a = b := by
              have z := of_decide_eq_true c
              injection z with z
            have e : due lps es (.lay a b n) = "tie" := by simp only [due]; rw [if_pos hin, if_pos ab]
            rw [← e]
            exact k H8 s08
          · have nab : ¬ a = b := fun z => c (decide_eq_true (by rw [z]))
            refine ⟨_, rfl, _, rfl, ?_⟩
            cases j : joined (pr a b) es with
            | true =>
              refine iteF (iteF ?_)
              have e : due lps es (.lay a b n) = "ok" := by simp only [due]; rw [if_pos hin, if_neg nab, if_neg (fun z => by rw [j] at z; exact Bool.noConfusion z.1)]
              rw [← e]
              exact k H8 s08
            | false =>
              refine iteT ?_
              refine ⟨_, rfl, T, _, rfl, S8.t, rfl, _, rfl, ?_⟩
              refine ite2 (fun c2 => ?_) (fun c2 => ?_)
              · have l60 : es.length = 60 := by
                  have z := of_decide_eq_true c2
                  injection z with z
                  rw [List.length_map] at z
                  omega
                have e : due lps es (.lay a b n) = "many" := by simp only [due]; rw [if_pos hin, if_neg nab, if_pos ⟨j, l60⟩]
                rw [← e]
                exact k H8 s08
              · have l60 : ¬ es.length = 60 := fun z => c2 (decide_eq_true (by rw [List.length_map, z]; rfl))
                have e : due lps es (.lay a b n) = "ok" := by simp only [due]; rw [if_pos hin, if_neg nab, if_neg (fun z => l60 z.2)]
                rw [← e]
                exact k H8 s08
end
end L2.T
set_option maxHeartbeats 2000000
/-! Pairs of places, and the ties made of them. -/
namespace L2.T
open PySem PySem.Spec PyProof.Rows
open PySem.W (dataLt dataLe alike AllAlike Sortable EachIs)
open Thin
/-- the n-th length -/
def lenK (k : Nat) : Int := 1 + (k : Int) % 5
theorem lenK_ok (k : Nat) : 1 ≤ lenK k ∧ lenK k ≤ 5 := by
  unfold lenK
  omega
def mkT (k : Nat) : List (Str × Str) → List Tie
  | [] => []
  | p :: r => (p.1, p.2, lenK k) :: mkT (k + 1) r
theorem mkT_pk (k : Nat) : ∀ l : List (Str × Str), (mkT k l).map pk = l
  | [] => rfl
  | p :: r => by
    show (p.1, p.2) :: (mkT (k + 1) r).map pk = p :: r
    rw [mkT_pk (k + 1) r]
theorem mkT_len (k : Nat) (l : List (Str × Str)) : (mkT k l).length = l.length := by
  have q := congrArg List.length (mkT_pk k l)
  rw [List.length_map] at q
  exact q
theorem mkT_at : ∀ (k : Nat) (l : List (Str × Str)) (i : Nat) (p : Str × Str), l[i]? = some p → (mkT k l)[i]? = some (p.1, p.2, lenK (k + i))
  | k, [], i, p, h => by simp at h
  | k, q :: r, 0, p, h => by
    have e : q = p := Option.some.inj h
    rw [e]
    rfl
  | k, q :: r, i + 1, p, h => by
    have z := mkT_at (k + 1) r i p (by simpa using h)
    rw [show k + 1 + i = k + (i + 1) by omega] at z
    simpa [mkT] using z
theorem mkT_lens : ∀ (k : Nat) (l : List (Str × Str)), ∀ t ∈ mkT k l, 1 ≤ t.2.2 ∧ t.2.2 ≤ 5
  | k, [], t, h => by cases h
  | k, p :: r, t, h => by
    rcases List.mem_cons.mp h with e | h
    · rw [e]; exact lenK_ok k
    · exact mkT_lens (k + 1) r t h
theorem mkT_net {ps : List Str} {l : List (Str × Str)} (up : ps.Pairwise sLt) (inp : ∀ p ∈ ps, p ∈ pool) (few : ps.length ≤ 24) (pu : l.Pairwise pLt) (ends : ∀ q ∈ l, q.1 ∈ ps ∧ q.2 ∈ ps ∧ sLt q.1 q.2) (lf : l.length ≤ 60) : NetOk ps (mkT 0 l) where
  up := up
  inPool := inp
  few := few
  tup := by
    have h : ((mkT 0 l).map pk).Pairwise pLt := by rw [mkT_pk]; exact pu
    exact List.pairwise_map.mp h
  ends := fun t ht => by
    have m : pk t ∈ l := by
      rw [← mkT_pk 0 l]
      exact List.mem_map.mpr ⟨t, ht, rfl⟩
    exact ends _ m
  lens := fun t ht => by
    have q := mkT_lens 0 l t ht
    omega
  tfew := by rw [mkT_len]; exact lf
theorem put_new {es : List Tie} {t : Tie} (h : joined (pk t) es = false) : putT es (pk t) t.2.2 = es ++ [t] := by
  unfold putT
  rw [if_neg (by rw [h]; exact Bool.false_ne_true)]
/-! tuples stand as they are -/
def TX (H H' : Hp) : Prop := ∀ a xs, H a = some (.tup xs) → H' a = some (.tup xs)
theorem TX.of {H H' : Hp} (e : Same H H') : TX H H' := fun a xs h => e _ _ h
theorem TX.but {H H' : Hp} {p : Addr} (e : But p H H') (m : Mut (H p)) : TX H H' := fun a xs h => e _ _ h (by
  rintro rfl
  rw [h] at m
  exact m)
theorem TX.trans {H H1 H2 : Hp} (a : TX H H1) (b : TX H1 H2) : TX H H2 := fun c xs h => b c xs (a c xs h)
theorem keyZ_k {H H' : Hp} (e : TX H H') {x : V} {k : List Key} (h : KeyZ H x k) : KeyZ H' x k := by
  obtain ⟨b, h1, h2⟩ := h
  exact ⟨b, h1, e _ _ h2⟩
theorem keysZ_k {H H' : Hp} (e : TX H H') : ∀ {xs : List V} {ks : List (List Key)}, Paired (KeyZ H) xs ks → Paired (KeyZ H') xs ks
  | _, _, .nil => .nil
  | _, _, .cons h t => .cons (keyZ_k e h) (keysZ_k e t)
theorem paired_app {α β : Type} {F : α → β → Prop} : ∀ {a : List α} {b : List β} {c : List α} {d : List β}, Paired F a b → Paired F c d → Paired F (a ++ c) (b ++ d)
  | _, _, _, _, .nil, h => h
  | _, _, _, _, .cons r t, h => .cons r (paired_app t h)
theorem paired_drop {α β : Type} {F : α → β → Prop} : ∀ {a : List α} {b : List β} (n : Nat), Paired F a b → Paired F (a.drop n) (b.drop n)
  | _, _, 0, h => h
  | _, _, n + 1, .nil => .nil
  | _, _, n + 1, .cons r t => paired_drop n t
theorem paired_take {α β : Type} {F : α → β → Prop} : ∀ {a : List α} {b : List β} (n : Nat), Paired F a b → Paired F (a.take n) (b.take n)
  | _, _, 0, h => .nil
  | _, _, n + 1, .nil => .nil
  | _, _, n + 1, .cons r t => .cons r (paired_take n t)
theorem app_len (a b : Str) : (a ++ b).length = a.length + b.length := by
  show (a.cps ++ b.cps).size = a.cps.size + b.cps.size
  exact Array.size_append
end L2.T
set_option maxHeartbeats 2000000
namespace L2.T
open PySem PySem.Spec PyProof.Rows
open PySem.W (dataLt dataLe alike AllAlike Sortable EachIs)
open Thin
def spBegun (K : PySem.W.Frag) (C : Addr) : Sp := fun vs H Q _ => ∃ (f cc : Addr) (t : V) (wy : Int) (n : Nat), vs = [.ref f, t, .int wy] ∧ (wy = 0 ∨ wy = 1 ∨ wy = 2) ∧ FeedAt K cc H f n ∧ n ≤ 800000 ∧ Times K H t ∧
  ∀ (H' : Hp) (u p D L T : Addr) (ps : List Str) (ts ks : List Tie), But f H H' → FeedAt K cc H' f (n + 3) → cc ≠ L → H' u = some (.tup [.ref p, .ref D]) → KeepAt K C H' p ps ts ks → StateAt H' D L T ps ts → NetOk ps ts → (wy = 2 → ps.length = 12) → Q (.ref u) H'
abbrev sBegun : Stmt := topS 51
abbrev nBe : List Str := ["_law_feed_here", "_law_times_here", "_law_way", "_law_places_here", "_law_pairs", "_law_a", "_law_at", "_law_lines", "_law_state", "_law_k", "_law_b", "_law_name"]
theorem way_m {wy : Int} (h : wy = 0 ∨ wy = 1 ∨ wy = 2) : ∃ m : Nat, m ≤ 24 ∧ atI [V.int 5, V.int 24, V.int 12] wy = some (.int (m : Int)) ∧ (wy = 2 → m = 12) := by
  rcases h with rfl | rfl | rfl
  · exact ⟨5, by decide, rfl, fun z => by cases z⟩
  · exact ⟨24, by decide, rfl, fun z => by cases z⟩
  · exact ⟨12, by decide, rfl, fun _ => rfl⟩
theorem way_n {wy : Int} (h : wy = 0 ∨ wy = 1 ∨ wy = 2) : ∃ m : Nat, m ≤ 60 ∧ atI [V.int 3, V.int 5, V.int 60] wy = some (.int (m : Int)) := by
  rcases h with rfl | rfl | rfl
  · exact ⟨3, by decide, rfl⟩
  · exact ⟨5, by decide, rfl⟩
  · exact ⟨60, by decide, rfl⟩
section
variable {P : Program} {w : World} {K : PySem.W.Frag} {mg : Str → Option Value} {base : Heap}
theorem scBe : FnScope nBe ["_law_feed_here", "_law_times_here", "_law_way"] (defScope sBegun) := ⟨rfl, rfl, rfl, by decide +kernel, rfl, by decide +kernel, by decide +kernel⟩
theorem ok_begun {f C fPl fX fU : Addr} {fd fdPl fdX fdU : FuncData} (A : At K mg "_law_begun" "_law_begun" sBegun f fd) (Pl : At K mg "_law_places" "_law_places" sPlaces fPl fdPl) (bPl : Binds K fdPl ["_law_feed_here", "_law_many"] []) (GPl : FnOk P w K mg base CX0 2 fPl fdPl ["_law_feed_here", "_law_many"] (spPlaces K))
    (X : At K mg "_law_next" "_law_next" sNext fX fdX) (bX : Binds K fdX ["_law_feed_here", "_law_many"] []) (GX : FnOk P w K mg base CX0 1 fX fdX ["_law_feed_here", "_law_many"] (spNext K))
    (U : At K mg "taken_up" "taken_up" sUp fU fdU) (bU : Binds K fdU ["lines", "times"] []) (GU : FnOk P w K mg base CX0 7 fU fdU ["lines", "times"] (spUp K C)) (B : Blt mg) : FnOk P w K mg base CX0 8 f fd ["_law_feed_here", "_law_times_here", "_law_way"] (spBegun K C) := by
  refine A.F.ok scBe (fun vs H Q E h => ?_) (fun cdv A outer s H vs Q E hr h => ?_)
  · obtain ⟨fe, cc, t, wy, n, rfl, _⟩ := h
    rfl
  · obtain ⟨fe, cc, t, wy, n, rfl, hwy, hF, nsm, ht, k⟩ := h
    have hu := hu_of hr
    have hr1 : Room 1 _ := hr.mono (by decide)
    have hr2 : Room 2 _ := hr.mono (by decide)
    refine ⟨_, (pss_cons (ps_set (i := 3) scBe.nd rfl (Or.inr rfl) (pe_call GPl hr2 (by rfl) Pl.g Pl.F.kp bPl .nil pass0 (pa_cons (pv 0) (pa_cons (pe_ix ix_list (pe_lst (pa_cons pe_int (pa_cons pe_int (pa_cons pe_int pa_nil)))) (pv 2) (fun _ _ => rfl)) pa_nil)))) (pss_cons (ps_set (i := 4) scBe.nd rfl (Or.inr rfl) (pe_lst pa_nil)) (pss_cons (ps_for PassesOwn.never rfl (pi_range1 (by rfl) B.range (pa_cons (pe_callB call_len_seq (by rfl) B.len PySem.boot_len (pa_cons (pv 3) pa_nil)) pa_nil)) (pg_name (i := 5) scBe.nd rfl (Or.inr rfl)) (pss_one (ps_expr (pe_bm PySem.F.plainAttrs_list PySem.F.slot_list_extend PySem.F.type_list_extend mt_extend (pv 4) (pa_cons (pe_lc (own := [("_law_b", 10)]) (g := gName 10) (by rfl) scBe.nd (pi_range2 (by rfl) B.range (pa_cons (pe_op op_add (pv 5) pe_int) (pa_cons (pe_callB call_len_seq (by rfl) B.len PySem.boot_len (pa_cons (pv 3) pa_nil)) pa_nil))) (blkOk_by (N := nBe) (sc := defScope sBegun) (by decide +kernel)) (fun _ _ _ _ _ => pg_name (i := 10) scBe.nd rfl (Or.inl rfl)) (fun _ _ _ _ _ => pts_nil) (fun _ _ _ _ _ => (pe_tup (pa_cons (pe_ix (r := rIxT K) ix_tup (pv 3) (pv 5) (fun _ _ => rfl)) (pa_cons (pe_ix (r := rIxT K) ix_tup (pv 3) (pv 10) (fun _ _ => rfl)) pa_nil))))) pa_nil))))) (pss_cons (ps_set (i := 6) scBe.nd rfl (Or.inl rfl) (pe_call GX hr1 (by rfl) X.g X.F.kp bX .nil pass0 (pa_cons (pv 0) (pa_cons pe_int pa_nil)))) (pss_cons (ps_set (i := 4) scBe.nd rfl (Or.inr rfl) (pe_slice sl_list (pv 4) (po_some (pv 6)) (po_some (pe_op op_add (pv 6) (pe_ix ix_list (pe_lst (pa_cons pe_int (pa_cons pe_int (pa_cons pe_int pa_nil)))) (pv 2) (fun _ _ => rfl)))))) (pss_cons (ps_setLc (i := 7) (own := [("_law_name", 11)]) (g := gName 11) (by rfl) scBe.nd rfl rfl (sw_true rfl rfl rfl (by decide +kernel)) (pi_tup (pv 3)) (blkOk_by (N := nBe) (sc := defScope sBegun) (by decide +kernel)) (fun _ _ _ _ _ => pg_name (i := 11) scBe.nd rfl (Or.inl rfl)) (fun _ _ _ _ _ => pts_nil) (fun _ _ _ _ _ => (pe_op op_add_str pe_str (pv 11)))) (pss_cons (ps_expr (pe_bm PySem.F.plainAttrs_list PySem.F.slot_list_extend PySem.F.type_list_extend mt_extend (pv 7) (pa_cons (pe_lc (own := [("_law_k", 9)]) (g := gName 9) (by rfl) scBe.nd (pi_range1 (by rfl) B.range (pa_cons (pe_callB call_len_seq (by rfl) B.len PySem.boot_len (pa_cons (pv 4) pa_nil)) pa_nil)) (blkOk_by (N := nBe) (sc := defScope sBegun) (by decide +kernel)) (fun _ _ _ _ _ => pg_name (i := 9) scBe.nd rfl (Or.inl rfl)) (fun _ _ _ _ _ => pts_nil) (fun _ _ _ _ _ => (pe_op op_add_str (pe_op op_add_str (pe_op op_add_str (pe_op op_add_str (pe_op op_add_str pe_str (pe_ix (r := rIxT K) ix_tup (pe_ix (r := rIxL K) ix_list (pv 4) (pv 9) (fun _ _ => rfl)) pe_int (fun _ _ => rfl))) pe_str) (pe_ix (r := rIxT K) ix_tup (pe_ix (r := rIxL K) ix_list (pv 4) (pv 9) (fun _ _ => rfl)) pe_int (fun _ _ => rfl))) pe_str) (pe_callTy call_str_int (by rfl) B.str (by decide +kernel) (pa_cons (pe_op op_add pe_int (pe_op op_mod (pv 9) pe_int)) pa_nil))))) pa_nil))) (pss_cons (ps_set (i := 8) scBe.nd rfl (Or.inl rfl) (pe_disp (pps_cons pe_str (pe_callTy call_list_of (by rfl) B.list (by decide +kernel) (pa_cons (pv 3) pa_nil)) (pps_cons pe_str pe_dnewT pps_nil)) (by rfl) (by rfl) (fun z => by cases z) (by decide))) (pss_cons (ps_for PassesOwn.never rfl (pi_range1 (by rfl) B.range (pa_cons (pe_callB call_len_seq (by rfl) B.len PySem.boot_len (pa_cons (pv 4) pa_nil)) pa_nil)) (pg_name (i := 9) scBe.nd rfl (Or.inl rfl)) (pss_one (ps_dput hu (pe_dget hu (pv 8) pe_str (fun _ _ => rfl)) (pe_ix ix_list (pv 4) (pv 9) (fun _ _ => rfl)) (pe_op op_add pe_int (pe_op op_mod (pv 9) pe_int)) rfl))) (pss_one (ps_ret (pe_tup (pa_cons (pe_call GU hr (by rfl) U.g U.F.kp bU .nil pass0 (pa_cons (pv 7) (pa_cons (pv 1) pa_nil))) (pa_cons (pv 8) pa_nil)))))))))))))), ?_⟩
    obtain ⟨_, _, _, hf0, _⟩ := id hF
    obtain ⟨m, m24, em, m12⟩ := way_m hwy
    refine ⟨_, rfl, (by show 3 ≤ sizeLine; decide), fun q0 nq0 => ⟨_, rfl, q0, _, _, _, rfl, rfl, SqL.of upd_same, em, ?_⟩⟩
    have s0 : Same H (upd H q0 (.lst [.int 5, .int 24, .int 12])) := same_upd nq0
    refine ⟨fe, cc, m, n, rfl, m24, hF.same s0, by omega, fun H2 tp ps b2 F2 htp up inp lps => ?_⟩
    have tx0 : TX H H2 := (TX.of s0).trans (TX.but b2 (by rw [s0 _ _ hf0]; exact True.intro))
    have b02 : But fe H H2 := (But.of s0).trans b2
    have tk0 : TupK H H2 := (TupK.of s0).trans (TupK.but b2 (by rw [s0 _ _ hf0]; exact True.intro))
    have f24 : ps.length ≤ 24 := by omega
    refine ⟨(by show 0 ≤ sizeLine; decide), fun l nl => ?_⟩
    have s3 : Same H2 (upd H2 l (.lst [])) := same_upd nl
    refine ⟨_, rfl, tp, _, rfl, .inr (SqT.of (s3 _ _ htp)), _, rfl, by rw [List.length_map]; omega, by rw [List.length_map]; omega, ?_⟩
    rw [List.length_map, Int.toNat_natCast]
    refine for_range (lo := 0) (n := ps.length) (fun i σ H' => ∃ (xs : List V) (prs : List (Str × Str)) (s5 : Option V), σ = [some (.ref fe), some t, some (.int wy), some (.ref tp), some (.ref l), s5, none, none, none, none, none, none] ∧ Same H2 H' ∧ H' l = some (.lst xs) ∧
        Paired (KeyZ H') xs (prs.map kk) ∧ prs.Pairwise pLt ∧ (∀ q ∈ prs, ∃ j, j < i ∧ ps[j]? = some q.1 ∧ q.2 ∈ ps ∧ sLt q.1 q.2) ∧ prs.length ≤ i * 24)
      ⟨[], [], _, rfl, s3, upd_same, .nil, List.Pairwise.nil, (fun _ z => nomatch z), Nat.zero_le _⟩ ?_ ?_
    · -- the pairs of one place
      rintro i σ H3 hi ⟨xs, prs, s5, rfl, s23, hl, kz, pw, mem, len⟩
      obtain ⟨pa, hpa⟩ : ∃ pa, ps[i]? = some pa := ⟨_, List.getElem?_eq_getElem hi⟩
      have hpaI : atI (ps.map V.str) ((0 : Int) + (i : Int)) = some (.str pa) := by
        rw [Int.zero_add]
        exact atI_nat (by rw [List.getElem?_map, hpa]; rfl)
      refine ⟨_, rfl, .inl ⟨rfl, _, SqL.of hl⟩, _, rfl, _, _, rfl, rfl, _, rfl, tp, _, rfl, .inr (SqT.of (s23 _ _ htp)), _, _, rfl, ⟨by omega, by omega, by rw [List.length_map]; omega, by rw [List.length_map]; omega⟩, fun D nD => ?_⟩
      refine lc_range (lo := (0 : Int) + (i : Int) + 1) (n := (((ps.map V.str).length : Int) - ((0 : Int) + (i : Int) + 1)).toNat) (fun j H4 => ∃ (zs : List V) (qs : List (Str × Str)), Same H3 H4 ∧ H4 D = some (.lst zs) ∧ Paired (KeyZ H4) zs (qs.map kk) ∧ qs.length = j ∧ qs.Pairwise pLt ∧
        ∀ q ∈ qs, q.1 = pa ∧ ∃ b, i < b ∧ b < i + 1 + j ∧ ps[b]? = some q.2) ⟨[], [], same_upd nD, upd_same, .nil, rfl, List.Pairwise.nil, fun _ z => nomatch z⟩ ?_ ?_
      · rintro j H4 hj ⟨zs, qs, s4, hD, kq, lq, pq, mq⟩
        rw [List.length_map] at hj
        have hb : i + 1 + j < ps.length := by omega
        obtain ⟨pb, hpb⟩ : ∃ pb, ps[i + 1 + j]? = some pb := ⟨_, List.getElem?_eq_getElem hb⟩
        have eb : ((0 : Int) + (i : Int) + 1 + (j : Int)) = ((i + 1 + j : Nat) : Int) := by omega
        have hpbI : atI (ps.map V.str) ((0 : Int) + (i : Int) + 1 + (j : Int)) = some (.str pb) := by
          rw [eb]
          exact atI_nat (by rw [List.getElem?_map, hpb]; rfl)
        refine ⟨rfl, yes_of (iteT ?_)⟩
        have htp4 := s4 _ _ (s23 _ _ htp)
        refine ⟨_, rfl, _, rfl, tp, _, _, _, rfl, rfl, SqT.of htp4, hpaI, _, rfl, _, rfl, tp, _, _, _, rfl, rfl, SqT.of htp4, hpbI, (by show 2 ≤ sizeLine; decide), fun q nq => ?_⟩
        have sq : Same H4 (upd H4 q (.tup [.str pa, .str pb])) := same_upd nq
        have hDq := sq _ _ hD
        have txD : TX (upd H4 q (.tup [.str pa, .str pb])) (upd (upd H4 q (.tup [.str pa, .str pb])) D (.lst (zs ++ [.ref q]))) := TX.but (p := D) But.set (by rw [hDq]; exact True.intro)
        have lz : zs.length = qs.length := by
          have z := Paired.length kq
          rw [List.length_map] at z
          exact z
        refine ⟨zs, hDq, small1000 (by omega), zs ++ [.ref q], qs ++ [(pa, pb)], fun b o e => ?_, upd_same, ?_, (by rw [List.length_append, List.length_singleton, lq]), ?_, fun c hc => ?_⟩
        · rw [upd_ne (ne_of_none e nD)]
          exact sq _ _ (s4 _ _ e)
        · rw [List.map_append]
          exact paired_app (keysZ_k ((TX.of sq).trans txD) kq) (.cons ⟨q, rfl, txD _ _ upd_same⟩ .nil)
        · refine List.pairwise_append.mpr ⟨pq, List.pairwise_singleton _ _, fun c hc d hd => ?_⟩
          obtain ⟨e1, b, hb1, hb2, hb3⟩ := mq c hc
          rw [List.mem_singleton.mp hd]
          refine .inr ⟨e1, ?_⟩
          exact before_of up hpb c.2 (List.mem_of_getElem? (i := b) (by rw [List.getElem?_take]; rw [if_pos (by omega)]; exact hb3))
        · rcases List.mem_append.mp hc with z | z
          · obtain ⟨e1, b, hb1, hb2, hb3⟩ := mq c z
            exact ⟨e1, b, hb1, by omega, hb3⟩
          · rw [List.mem_singleton.mp z]
            exact ⟨rfl, i + 1 + j, by omega, by omega, hpb⟩
      · rintro H4 ⟨zs, qs, s4, hD, kq, lq, pq, mq⟩
        rw [List.length_map] at lq mq
        have hl4 := s4 _ _ hl
        have lx : xs.length = prs.length := by
          have z := Paired.length kz
          rw [List.length_map] at z
          exact z
        have lz : zs.length = qs.length := by
          have z := Paired.length kq
          rw [List.length_map] at z
          exact z
        have big : i * 24 ≤ 24 * 24 := Nat.mul_le_mul (by omega) (Nat.le_refl _)
        have txl : TX H4 (upd H4 l (.lst (xs ++ zs))) := TX.but (p := l) But.set (by rw [hl4]; exact True.intro)
        refine ⟨l, D, xs, zs, rfl, rfl, hl4, hD, Nat.le_of_lt (small1000 (by omega)), xs ++ zs, prs ++ qs, _, rfl, fun b o e => ?_, upd_same, ?_, ?_, fun c hc => ?_, ?_⟩
        · rw [upd_ne (ne_of_none e nl)]
          exact s4 _ _ (s23 _ _ e)
        · rw [List.map_append]
          exact paired_app (keysZ_k ((TX.of s4).trans txl) kz) (keysZ_k txl kq)
        · refine List.pairwise_append.mpr ⟨pw, pq, fun c hc d hd => ?_⟩
          obtain ⟨j, hj, hj2, _⟩ := mem c hc
          obtain ⟨e1, _⟩ := mq d hd
          refine .inl ?_
          rw [e1]
          exact before_of up hpa c.1 (List.mem_of_getElem? (i := j) (by rw [List.getElem?_take]; rw [if_pos (by omega)]; exact hj2))
        · rcases List.mem_append.mp hc with z | z
          · obtain ⟨j, hj, r⟩ := mem c z
            exact ⟨j, by omega, r⟩
          · obtain ⟨e1, b, hb1, hb2, hb3⟩ := mq c z
            refine ⟨i, by omega, by rw [e1]; exact hpa, List.mem_of_getElem? hb3, ?_⟩
            rw [e1]
            exact before_of up hb3 pa (List.mem_of_getElem? (i := i) (by rw [List.getElem?_take]; rw [if_pos (by omega)]; exact hpa))
        · rw [List.length_append, Nat.succ_mul]
          omega
    · rintro σ H3 ⟨xs, prs, s5, rfl, s23, hl, kz, pw, mem, len⟩
      have F3 := F2.same s23
      obtain ⟨_, _, _, hf3, _⟩ := id F3
      refine ⟨_, rfl, fe, cc, 7, n + 2, rfl, by decide, by decide, F3, by omega, fun H4 at_ a0 a7 b4 F4 => ?_⟩
      have tx4 : TX H3 H4 := TX.but b4 (by rw [hf3]; exact True.intro)
      have nlf : l ≠ fe := by
        obtain ⟨_, _, _, hf2, _⟩ := id F2
        exact (ne_of_none hf2 nl).symm
      have hl4 := b4 _ _ hl nlf
      obtain ⟨nn, nn60, enn⟩ := way_n hwy
      obtain ⟨aN, rfl⟩ : ∃ aN : Nat, at_ = (aN : Int) := ⟨at_.toNat, (Int.toNat_of_nonneg a0).symm⟩
      refine ⟨_, rfl, _, rfl, _, rfl, _, rfl, (by show 3 ≤ sizeLine; decide), fun q1 nq1 => ⟨_, rfl, q1, _, _, _, rfl, rfl, SqL.of upd_same, enn, _, _, rfl, rfl, _, rfl, l, xs, rfl, SqL.of (same_upd nq1 _ _ hl4), fun l2 nl2 => ?_⟩⟩
      -- the pairs that are kept
      have s5 : Same H4 (upd H4 q1 (.lst [.int 3, .int 5, .int 60])) := same_upd nq1
      have s6 : Same (upd H4 q1 (.lst [.int 3, .int 5, .int 60])) _ := same_upd (o := .lst (cutV xs (some (aN : Int)) (some ((aN : Int) + (nn : Int))))) nl2
      have s46 := s5.trans s6
      have hl2 := upd_same (H := upd H4 q1 (.lst [.int 3, .int 5, .int 60])) (a := l2) (o := .lst (cutV xs (some (aN : Int)) (some ((aN : Int) + (nn : Int)))))
      obtain ⟨pr2, hk2, pw2, mem2, len2⟩ : ∃ pr2 : List (Str × Str), Paired (KeyZ H4) (cutV xs (some (aN : Int)) (some ((aN : Int) + (nn : Int)))) (pr2.map kk) ∧ pr2.Pairwise pLt ∧ (∀ q ∈ pr2, q ∈ prs) ∧ pr2.length ≤ nn := by
        have e1 : HT.sIx xs.length 0 (some (aN : Int)) = min aN xs.length := HT.sIx_nat _ _ _
        have e2 : HT.sIx xs.length xs.length (some ((aN : Int) + (nn : Int))) = min (aN + nn) xs.length := by
          rw [show (aN : Int) + (nn : Int) = ((aN + nn : Nat) : Int) by omega]
          exact HT.sIx_nat _ _ _
        unfold cutV
        rw [e1, e2]
        refine ⟨(prs.drop (min aN xs.length)).take (min (aN + nn) xs.length - min aN xs.length), ?_, pw.sublist ((List.take_sublist _ _).trans (List.drop_sublist _ _)), fun q hq => List.mem_of_mem_drop (List.mem_of_mem_take hq), ?_⟩
        · rw [List.map_take, List.map_drop]
          exact paired_take _ (paired_drop _ (keysZ_k tx4 kz))
        · rw [List.length_take]
          omega
      generalize cutV xs (some (aN : Int)) (some ((aN : Int) + (nn : Int))) = xs2 at hl2 hk2 s6 s46
      generalize upd (upd H4 q1 (.lst [.int 3, .int 5, .int 60])) l2 (.lst xs2) = H6 at hl2 s6 s46
      have hk6 := keysZ_k (TX.of s46) hk2
      have lx2 : xs2.length = pr2.length := by
        have z := Paired.length hk2
        rw [List.length_map] at z
        exact z
      have p60 : pr2.length ≤ 60 := by omega
      have NO : NetOk ps (mkT 0 pr2) := mkT_net up inp f24 pw2 (fun q hq => by
        obtain ⟨j, _, hj, r⟩ := mem q (mem2 q hq)
        exact ⟨List.mem_of_getElem? hj, r⟩) p60
      have lts : (mkT 0 pr2).length = pr2.length := mkT_len 0 pr2
      have five : ∀ t ∈ mkT 0 pr2, t.2.2 ≤ 5 := fun t ht => (mkT_lens 0 pr2 t ht).2
      -- the key at a place
      have at2 : ∀ (i : Nat), i < pr2.length → ∃ (q : Str × Str) (b : Addr), pr2[i]? = some q ∧ (mkT 0 pr2)[i]? = some (q.1, q.2, lenK i) ∧ xs2[i]? = some (.ref b) ∧ H6 b = some (.tup [.str q.1, .str q.2]) ∧ q.1 ∈ pool ∧ q.2 ∈ pool := by
        intro i hi
        obtain ⟨q, hq⟩ : ∃ q, pr2[i]? = some q := ⟨_, List.getElem?_eq_getElem hi⟩
        obtain ⟨x, hx, kz2⟩ := paired_at hk6 (by rw [List.getElem?_map, hq]; rfl)
        obtain ⟨b, rfl, hb⟩ := kz2
        obtain ⟨j, _, hj, r⟩ := mem q (mem2 q (List.mem_of_getElem? hq))
        have mt := mkT_at 0 pr2 i q hq
        rw [Nat.zero_add] at mt
        exact ⟨q, b, hq, mt, hx, hb, inp _ (List.mem_of_getElem? hj), inp _ r.1⟩
      have htp6 := s46 _ _ (tx4 _ _ (s23 _ _ htp))
      -- the lines of the places
      refine ⟨_, rfl, tp, rfl, ⟨_, SqT.of htp6⟩, fun D nD => ?_⟩
      refine lc_tup (K := K) (a := tp) (xs := ps.map V.str) (fun i H7 => Same H6 H7 ∧ H7 D = some (.lst (((ps.take i).map placeLine).map V.str))) ⟨same_upd nD, upd_same⟩ (fun i H7 _ ⟨s7, _⟩ => SqT.of (s7 _ _ htp6)) ?_ ?_
      · rintro i y H7 hi ⟨s7, hD⟩
        rw [List.getElem?_map] at hi
        cases e : ps[i]? with
        | none => rw [e] at hi; cases hi
        | some x =>
          rw [e] at hi
          obtain rfl : V.str x = y := Option.some.inj hi
          have hx := inp x (List.mem_of_getElem? e)
          have px := place_short hx
          have px2 : ("place " : Str).length + x.length ≤ 30 := by
            rw [← app_len]
            exact px
          have il := (List.getElem?_eq_some_iff.mp e).1
          refine ⟨rfl, yes_of (iteT ?_)⟩
          refine ⟨_, rfl, _, _, rfl, rfl, Nat.le_of_lt (small1000 (by omega)), ?_⟩
          refine ⟨_, hD, small1000 (by rw [List.length_map, List.length_map, List.length_take]; omega), fun b o e => ?_, ?_⟩
          · rw [upd_ne (ne_of_none e nD)]
            exact s7 _ _ e
          · rw [upd_same, List.take_add_one, e, List.map_append, List.map_append]
            rfl
      · rintro H7 ⟨s7, hD⟩
        rw [List.length_map, List.take_length] at hD
        have hl7 := s7 _ _ hl2
        -- the lines of the ties
        refine ⟨_, rfl, .inl ⟨rfl, _, SqL.of hD⟩, _, rfl, l2, _, rfl, .inl (SqL.of hl7), _, rfl, by omega, by omega, fun D2 nD2 => ?_⟩
        rw [Int.toNat_natCast]
        refine lc_range (lo := 0) (n := xs2.length) (fun j H8 => Same H7 H8 ∧ H8 D2 = some (.lst ((((mkT 0 pr2).take j).map tieLine).map V.str))) ⟨same_upd nD2, upd_same⟩ ?_ ?_
        · rintro j H8 hj ⟨s8, hD2⟩
          rw [lx2] at hj
          obtain ⟨q, b, hq, hqt, hx, hb, q1p, q2p⟩ := at2 j hj
          have s68 := s7.trans s8
          have hb8 := s68 _ _ hb
          have hl8 := s8 _ _ hl7
          have ex : atI xs2 ((0 : Int) + (j : Int)) = some (.ref b) := by
            rw [Int.zero_add]
            exact atI_nat hx
          have w4 : ("tie " : Str).length = 4 := by decide +kernel
          have w1 : (" " : Str).length = 1 := by decide +kernel
          have la := (pool_letters _ q1p).2.2
          have lb := (pool_letters _ q2p).2.2
          have lk := lenK_ok j
          have ek : (1 : Int) + ((0 : Int) + (j : Int)) % 5 = lenK j := by rw [Int.zero_add]; rfl
          have es := dig_str lk.1 lk.2
          have ld := (dig_facts lk.1 lk.2).2.2.1
          have big := small1000 (n := 100) (by decide)
          refine ⟨rfl, yes_of (iteT ?_)⟩
          refine ⟨_, rfl, _, rfl, l2, _, _, _, rfl, rfl, SqL.of hl8, ex, b, _, _, _, rfl, rfl, SqT.of hb8, rfl, _, _, rfl, rfl, by omega, _, _, rfl, rfl, by simp only [app_len]; omega, ?_⟩
          refine ⟨_, rfl, _, rfl, l2, _, _, _, rfl, rfl, SqL.of hl8, ex, b, _, _, _, rfl, rfl, SqT.of hb8, rfl, _, _, rfl, rfl, by simp only [app_len]; omega, _, _, rfl, rfl, by simp only [app_len]; omega, ?_⟩
          refine ⟨_, rfl, _, _, rfl, rfl, (by decide : (0 : Int) < 5), _, _, rfl, rfl, _, rfl, (by rw [ek]; rcases dig_of lk.1 lk.2 with z | z | z | z | z <;> rw [z] <;> decide), ?_⟩
          rw [ek, es]
          refine ⟨_, _, rfl, rfl, by simp only [app_len]; omega, ?_⟩
          refine ⟨_, hD2, small1000 (by rw [List.length_map, List.length_map, List.length_take]; omega), fun c o e => ?_, ?_⟩
          · rw [upd_ne (ne_of_none e nD2)]
            exact s8 _ _ e
          · rw [upd_same, List.take_add_one, hqt, List.map_append, List.map_append]
            rfl
        · rintro H8 ⟨s8, hD2⟩
          rw [List.take_of_length_le (by omega)] at hD2
          have s68 := s7.trans s8
          have hD8 := s8 _ _ hD
          refine ⟨D, D2, _, _, rfl, rfl, hD8, hD2, Nat.le_of_lt (small1000 (by simp only [List.length_map]; omega)), ?_⟩
          have nD6 : H6 D = none := nD
          have s9 : Same H6 (upd H8 D (.lst ((ps.map placeLine).map V.str ++ ((mkT 0 pr2).map tieLine).map V.str))) := fun b o e => by
            rw [upd_ne (ne_of_none e nD6)]
            exact s68 _ _ e
          have hD9 : (upd H8 D (.lst ((ps.map placeLine).map V.str ++ ((mkT 0 pr2).map tieLine).map V.str))) D = some (.lst ((netLines ps (mkT 0 pr2)).map V.str)) := by
            rw [upd_same]
            unfold netLines
            rw [List.map_append]
          generalize upd H8 D (.lst ((ps.map placeLine).map V.str ++ ((mkT 0 pr2).map tieLine).map V.str)) = H9 at s9 hD9
          -- the law's own net
          refine fun dD ndD => ?_
          have sa : Same H9 (upd H9 dD (.dK [])) := same_upd ndD
          refine ⟨_, rfl, tp, _, rfl, .inr (SqT.of (sa _ _ (s9 _ _ htp6))), fun L nL => fun T nT => ?_⟩
          have sb := same_upd (o := .lst (ps.map V.str)) nL
          have sc := same_upd (o := .dT []) nT
          have hdD : (upd H9 dD (.dK [])) dD = some (.dK []) := upd_same
          have hdT := sc _ _ (sb _ _ hdD)
          refine ⟨hdT, stK L T, rfl, (by show 2 ≤ 15; decide), ?_⟩
          have em : mergeK [] (stK L T) = stK L T := by
            show putK (putK ([] : List (Key × V)) (Sum.inr ("places" : Str)) (V.ref L)) (Sum.inr ("ties" : Str)) (V.ref T) = stK L T
            have e1 : putK ([] : List (Key × V)) (Sum.inr ("places" : Str)) (V.ref L) = [(Sum.inr ("places" : Str), V.ref L)] := putK_new _ rfl
            rw [e1]
            exact putK_new _ (valV_neg (fun z => by injection z with z; exact st_ne z))
          rw [em]
          have nLd : L ≠ dD := fun z => by rw [z, upd_same] at nL; cases nL
          have nTd : T ≠ dD := fun z => by
            have q := (same_upd (o := .lst (ps.map V.str)) nL).free nT
            rw [z, upd_same] at q
            cases q
          have nH9d : H9 dD = none := ndD
          have sd : Same H9 (upd (upd (upd (upd H9 dD (.dK [])) L (.lst (ps.map V.str))) T (.dT [])) dD (.dK (stK L T))) := fun b o e => by
            rw [upd_ne (ne_of_none e nH9d)]
            exact sc _ _ (sb _ _ (sa _ _ e))
          have Sd : StateAt (upd (upd (upd (upd H9 dD (.dK [])) L (.lst (ps.map V.str))) T (.dT [])) dD (.dK (stK L T))) dD L T ps [] := by
            refine ⟨upd_same, ?_, ?_⟩
            · rw [upd_ne nLd]
              exact sc _ _ upd_same
            · rw [upd_ne nTd]
              exact upd_same
          have nT9 : H9 T = none := (sa.trans sb).free nT
          generalize upd (upd (upd (upd H9 dD (.dK [])) L (.lst (ps.map V.str))) T (.dT [])) dD (.dK (stK L T)) = HA at sd Sd
          have s6A := s9.trans sd
          have hlA := s6A _ _ hl2
          have nlT : l2 ≠ T := ne_of hlA Sd.t (fun z => nomatch z)
          refine ⟨_, rfl, l2, _, rfl, .inl (SqL.of hlA), _, rfl, by omega, by omega, ?_⟩
          rw [Int.toNat_natCast]
          refine for_range (lo := 0) (n := xs2.length) (fun i σ H' => ∃ (s5 s9 : Option V), σ = [some (.ref fe), some t, some (.int wy), some (.ref tp), some (.ref l2), s5, some (.int (aN : Int)), some (.ref D), some (.ref dD), s9, none, none] ∧ But T HA H' ∧ H' T = some (.dT (tab ((mkT 0 pr2).take i))))
            ⟨_, _, rfl, fun b o e _ => e, Sd.t⟩ ?_ ?_
          · rintro i σ HB hi ⟨s5', s9', rfl, bB, hTB⟩
            rw [lx2] at hi
            obtain ⟨q, b, hq, hqt, hx, hb, q1p, q2p⟩ := at2 i hi
            have nbT : b ≠ T := ne_of (s6A _ _ hb) Sd.t (fun z => nomatch z)
            have ek : (1 : Int) + ((0 : Int) + (i : Int)) % 5 = lenK i := by rw [Int.zero_add]; rfl
            refine ⟨_, rfl, _, _, rfl, rfl, (by decide : (0 : Int) < 5), _, _, rfl, rfl, _, rfl, dD, _, rfl, (by rw [← st_ti L T]; exact DGet.k (k := Sum.inr "ties") (bB _ _ Sd.d Sd.ne3)), _, rfl, _, rfl, l2, _, _, _, rfl, rfl, SqL.of (bB _ _ hlA nlT), (by rw [Int.zero_add]; exact atI_nat hx), T, _, rfl,
              DPut.t (k := kk q) hTB (bB _ _ (s6A _ _ hb) nbT) (small1000 (by rw [List.length_map, List.length_take]; omega)), ?_⟩
            refine ⟨_, _, rfl, bB.trans But.set, ?_⟩
            have nd : ((mkT 0 pr2).map pk).Nodup := NO.pnd
            have nj : joined (pk (q.1, q.2, lenK i)) ((mkT 0 pr2).take i) = false := not_joined fun z => by
              obtain ⟨u, hu, eu⟩ := List.mem_map.mp z
              have lt := before_of NO.tup hqt u hu
              rw [eu] at lt
              exact pLt_irr _ lt
            have e2 := put_new (t := (q.1, q.2, lenK i)) nj
            have e3 : putT ((mkT 0 pr2).take i) q (lenK i) = (mkT 0 pr2).take (i + 1) := by
              rw [List.take_add_one, hqt]
              exact e2
            rw [upd_same]
            show some (HO.dT (putK (tab ((mkT 0 pr2).take i)) (kk q) (V.int ((1 : Int) + ((0 : Int) + (i : Int)) % 5)))) = _
            rw [ek, tab_put, e3]
          · rintro σ HB ⟨s5', s9', rfl, bB, hTB⟩
            rw [List.take_of_length_le (by omega)] at hTB
            have sAll : Same H6 HB := fun b o e => bB b o (s6A b o e) (fun z => by
              rw [z] at e
              have q := s9 _ _ e
              rw [nT9] at q
              cases q)
            have tkAll : TupK H HB := tk0.trans ((TupK.of s23).trans ((TupK.but b4 (by rw [hf3]; exact True.intro)).trans (TupK.of (s46.trans sAll))))
            have hDA := sd _ _ hD9
            have nDT : D ≠ T := ne_of hDA Sd.t (fun z => nomatch z)
            refine ⟨_, rfl, _, rfl, D, t, ps, mkT 0 pr2, rfl, SqL.of (bB _ _ hDA nDT), NO, five, ht.same tkAll, fun HC p ks np sC KC => ?_⟩
            refine ⟨_, rfl, (by show 2 ≤ sizeLine; decide), fun u nu => ?_⟩
            have sE := same_upd (o := .tup [.ref p, .ref dD]) nu
            have sCE := sC.trans sE
            have ncL : cc ≠ L := by
              obtain ⟨_, _, _, _, hc4, _⟩ := id F4
              exact ne_of_none (sa _ _ (s9 _ _ (s46 _ _ hc4))) nL
            have SB : StateAt HB dD L T ps (mkT 0 pr2) := ⟨bB _ _ Sd.d Sd.ne3, bB _ _ Sd.l Sd.ne1, hTB⟩
            have s4E : Same H4 _ := s46.trans (sAll.trans sCE)
            exact k _ u p dD L T ps (mkT 0 pr2) ks (b02.trans ((But.of s23).trans (b4.trans (But.of s4E)))) (F4.same s4E) ncL upd_same (KC.same sE) (SB.same sCE) NO (fun z => by rw [lps]; exact m12 z)
end
end L2.T
set_option maxHeartbeats 2000000
namespace L2.T
open PySem PySem.Spec PyProof.Rows
open PySem.W (dataLt dataLe alike AllAlike Sortable EachIs)
open Thin
theorem feed_ne {H : Hp} {f x c : Addr} {i j : Int} {ss : List Str} (hf : H f = some (.lst [.ref c, .int i, .int j])) (hx : H x = some (.lst (ss.map V.str))) : x ≠ f := fun z => by
  rw [z, hf] at hx
  have e := Option.some.inj hx
  injection e with e
  cases ss with
  | nil => cases e
  | cons a r =>
    injection e with e _
    cases e
def spDeed (K : PySem.W.Frag) : Sp := fun vs H Q _ => ∃ (f cc D L T pl : Addr) (n : Nat) (lps : List Str) (es : List Tie), vs = [.ref f, .ref D, .ref pl] ∧ FeedAt K cc H f n ∧ n ≤ 500000 ∧ StateAt H D L T lps es ∧ H pl = some (.lst (pool.map V.str)) ∧ (∀ p ∈ lps, p ∈ pool) ∧ lps.length ≤ 24 ∧ es.length ≤ 60 ∧
  TOk es ∧ ∀ (H' : Hp) (d : Deed) (da : Addr), But f H H' → FeedAt K cc H' f (n + 8) → H' da = some (.tup (dvs d)) → d.fine → inPool d → Q (.ref da) H'
abbrev sDeed : Stmt := topS 52
abbrev nDe : List Str := ["_law_feed_here", "_law_state", "_law_pool", "_law_some", "_law_a", "_law_b", "_law_way", "_law_pair_here"]
section
variable {P : Program} {w : World} {K : PySem.W.Frag} {mg : Str → Option Value} {base : Heap}
theorem scDe : FnScope nDe ["_law_feed_here", "_law_state", "_law_pool"] (defScope sDeed) := ⟨rfl, rfl, rfl, by decide +kernel, rfl, by decide +kernel, by decide +kernel⟩
theorem ok_deed {f fX : Addr} {fd fdX : FuncData} (A : At K mg "_law_deed" "_law_deed" sDeed f fd) (X : At K mg "_law_next" "_law_next" sNext fX fdX) (bX : Binds K fdX ["_law_feed_here", "_law_many"] []) (GX : FnOk P w K mg base CX0 1 fX fdX ["_law_feed_here", "_law_many"] (spNext K)) (B : Blt mg) :
    FnOk P w K mg base CX0 2 f fd ["_law_feed_here", "_law_state", "_law_pool"] (spDeed K) := by
  refine A.F.ok scDe (fun vs H Q E h => ?_) (fun cdv A outer s H vs Q E hr h => ?_)
  · obtain ⟨fe, cc, D, L, T, pl, n, lps, es, rfl, _⟩ := h
    rfl
  · obtain ⟨fe, cc, D, L, T, pl, n, lps, es, rfl, hF, nsm, S, hpl, inp, few1, few2, tok, k⟩ := h
    have hu := hu_of hr
    refine ⟨_, (pss_cons (ps_set (i := 3) scDe.nd rfl (Or.inl rfl) (pe_op op_cat (pe_dget hu (pv 1) pe_str (fun _ _ => rfl)) (pe_lst (pa_cons (pe_ix ix_list (pv 2) (pe_call GX hr (by rfl) X.g X.F.kp bX .nil pass0 (pa_cons (pv 0) (pa_cons pe_int pa_nil))) (fun _ _ => rfl)) pa_nil)))) (pss_cons (ps_set (i := 4) scDe.nd rfl (Or.inl rfl) (pe_ix ix_list (pv 3) (pe_call GX hr (by rfl) X.g X.F.kp bX .nil pass0 (pa_cons (pv 0) (pa_cons (pe_callB call_len_seq (by rfl) B.len PySem.boot_len (pa_cons (pv 3) pa_nil)) pa_nil))) (fun _ _ => rfl))) (pss_cons (ps_set (i := 5) scDe.nd rfl (Or.inl rfl) (pe_ix ix_list (pv 3) (pe_call GX hr (by rfl) X.g X.F.kp bX .nil pass0 (pa_cons (pv 0) (pa_cons (pe_callB call_len_seq (by rfl) B.len PySem.boot_len (pa_cons (pv 3) pa_nil)) pa_nil))) (fun _ _ => rfl))) (pss_cons (ps_set (i := 6) scDe.nd rfl (Or.inl rfl) (pe_call GX hr (by rfl) X.g X.F.kp bX .nil pass0 (pa_cons (pv 0) (pa_cons pe_int pa_nil)))) (pss_cons (ps_if (pt_cmpR op_lt (pv 6) pe_int (nomark _)) (pss_one (ps_ret (pe_tup (pa_cons pe_str (pa_cons (pe_ix ix_list (pv 2) (pe_call GX hr (by rfl) X.g X.F.kp bX .nil pass0 (pa_cons (pv 0) (pa_cons pe_int pa_nil))) (fun _ _ => rfl)) pa_nil))))) pss_nil) (pss_cons (ps_if (pt_cmpR op_eq (pv 6) pe_int (nomark _)) (pss_one (ps_ret (pe_tup (pa_cons pe_str (pa_cons (pv 4) pa_nil))))) pss_nil) (pss_cons (ps_if (pt_cmpR op_eq (pv 6) pe_int (nomark _)) (pss_one (ps_ret (pe_tup (pa_cons pe_str (pa_cons (pv 4) (pa_cons (pv 5) pa_nil)))))) pss_nil) (pss_cons (ps_if (PW.pt (pw_and (pt_cmpR op_lt (pv 6) pe_int (nomark _)) (pw_and (pt_cmpR (op_neVoid hr.units0) (pe_dget hu (pv 1) pe_str (fun _ _ => rfl)) pe_dnewK (nomark _)) (pw_and1 (pt_cmpR op_eq (pe_call GX hr (by rfl) X.g X.F.kp bX .nil pass0 (pa_cons (pv 0) (pa_cons pe_int pa_nil))) pe_int (nomark _)))))) (pss_cons (ps_set (i := 7) scDe.nd rfl (Or.inl rfl) (pe_ix ix_list (pe_callB (cr_sortKeys rfl hr.units) (by rfl) B.sorted (by decide +kernel) (pa_cons (pe_dget hu (pv 1) pe_str (fun _ _ => rfl)) pa_nil)) (pe_call GX hr (by rfl) X.g X.F.kp bX .nil pass0 (pa_cons (pv 0) (pa_cons (pe_callB call_len_dT (by rfl) B.len PySem.boot_len (pa_cons (pe_dget hu (pv 1) pe_str (fun _ _ => rfl)) pa_nil)) pa_nil))) (fun _ _ => rfl))) (pss_one (ps_ret (pe_ix ix_list (pe_lst (pa_cons (pe_tup (pa_cons pe_str (pa_cons (pe_ix ix_tup (pv 7) pe_int (fun _ _ => rfl)) (pa_cons (pe_ix ix_tup (pv 7) pe_int (fun _ _ => rfl)) pa_nil)))) (pa_cons (pe_tup (pa_cons pe_str (pa_cons (pe_ix ix_tup (pv 7) pe_int (fun _ _ => rfl)) (pa_cons (pe_ix ix_tup (pv 7) pe_int (fun _ _ => rfl)) (pa_cons (pe_op op_add pe_int (pe_call GX hr (by rfl) X.g X.F.kp bX .nil pass0 (pa_cons (pv 0) (pa_cons pe_int pa_nil)))) pa_nil))))) pa_nil))) (pe_op op_sub (pv 6) pe_int) (fun _ _ => rfl))))) pss_nil) (pss_one (ps_ret (pe_ifExp (pt_cmpR op_eq (pv 6) pe_int (nomark _)) (pe_tup (pa_cons pe_str (pa_cons (pv 4) (pa_cons (pv 5) pa_nil)))) (pe_tup (pa_cons pe_str (pa_cons (pv 4) (pa_cons (pv 5) (pa_cons (pe_op op_add pe_int (pe_call GX hr (by rfl) X.g X.F.kp bX .nil pass0 (pa_cons (pv 0) (pa_cons pe_int pa_nil)))) pa_nil)))))))))))))))), ?_⟩
    obtain ⟨_, _, _, hf0, _⟩ := id hF
    have gP : ∀ {H' : Hp}, H' D = some (.dK (stK L T)) → DGet H' D (.str "places") (some (.ref L)) := fun h => by rw [← st_pl L T]; exact DGet.k (k := Sum.inr "places") h
    have gT : ∀ {H' : Hp}, H' D = some (.dK (stK L T)) → DGet H' D (.str "ties") (some (.ref T)) := fun h => by rw [← st_ti L T]; exact DGet.k (k := Sum.inr "ties") h
    have nDf : D ≠ fe := ne_of S.d hf0 (fun z => nomatch z)
    have nTf : T ≠ fe := ne_of S.t hf0 (fun z => nomatch z)
    have nLf : L ≠ fe := feed_ne hf0 S.l
    have npf : pl ≠ fe := feed_ne hf0 hpl
    -- a draw of a name
    have name : ∀ {r : Int}, 0 ≤ r → r < 26 → ∃ x : Str, x ∈ pool ∧ atI (pool.map V.str) r = some (.str x) := fun {r} r0 r26 => by
      obtain ⟨k, rfl⟩ : ∃ k : Nat, r = (k : Int) := ⟨r.toNat, (Int.toNat_of_nonneg r0).symm⟩
      exact ⟨nth k, nth_in (by omega), atI_nat (by rw [List.getElem?_map, nth_at (by omega)]; rfl)⟩
    refine ⟨_, rfl, D, _, rfl, gP S.d, _, rfl, _, rfl, fe, cc, 26, n, rfl, by decide, by decide, hF, by omega, fun H1 r1 r10 r126 b1 F1 => ?_⟩
    obtain ⟨x1, hx1, ex1⟩ := name r10 r126
    refine ⟨pl, _, _, _, rfl, rfl, SqL.of (b1 _ _ hpl npf), ex1, (by show 1 ≤ sizeLine; decide), fun q1 nq1 => ?_⟩
    have s2 : Same H1 (upd H1 q1 (.lst [.str x1])) := same_upd nq1
    refine ⟨L, q1, _, _, rfl, rfl, s2 _ _ (b1 _ _ S.l nLf), upd_same, Nat.le_of_lt (small1000 (by rw [List.length_map]; show lps.length + 1 ≤ 1000; omega)), fun ls nls => ?_⟩
    have s3 := same_upd (o := .lst (lps.map V.str ++ [.str x1])) nls
    have s23 := s2.trans s3
    have hls : (upd (upd H1 q1 (.lst [.str x1])) ls (.lst (lps.map V.str ++ [.str x1]))) ls = some (.lst ((lps ++ [x1]).map V.str)) := by
      rw [upd_same, List.map_append]
      rfl
    have b3 : But fe H (upd (upd H1 q1 (.lst [.str x1])) ls (.lst (lps.map V.str ++ [.str x1]))) := b1.trans (But.of s23)
    have F3 := F1.same s23
    generalize upd (upd H1 q1 (.lst [.str x1])) ls (.lst (lps.map V.str ++ [.str x1])) = H3 at s3 s23 hls b3 F3
    obtain ⟨_, _, _, hf3, _⟩ := id F3
    have nlsf : ls ≠ fe := feed_ne hf3 hls
    have some_in : ∀ z ∈ lps ++ [x1], z ∈ pool := fun z hz => by
      rcases List.mem_append.mp hz with m | m
      · exact inp z m
      · rw [List.mem_singleton.mp m]; exact hx1
    have slen : ((lps ++ [x1]).map V.str).length = lps.length + 1 := by simp
    -- a draw of one of some
    have pick : ∀ {r : Int}, 0 ≤ r → r < (((lps ++ [x1]).map V.str).length : Int) → ∃ x : Str, x ∈ pool ∧ atI ((lps ++ [x1]).map V.str) r = some (.str x) := fun {r} r0 rl => by
      obtain ⟨k, rfl⟩ : ∃ k : Nat, r = (k : Int) := ⟨r.toNat, (Int.toNat_of_nonneg r0).symm⟩
      have hk : k < (lps ++ [x1]).length := by rw [List.length_map] at rl; omega
      exact ⟨(lps ++ [x1])[k], some_in _ (List.getElem_mem hk), atI_nat (by rw [List.getElem?_map, List.getElem?_eq_getElem hk]; rfl)⟩
    refine ⟨_, rfl, _, rfl, _, rfl, ls, _, rfl, .inl (SqL.of hls), fe, cc, _, n + 1, rfl, by rw [slen]; omega, by rw [slen]; omega, F3, by omega, fun H4 r4 r40 r41 b4 F4 => ?_⟩
    obtain ⟨a, ha, ea⟩ := pick r40 r41
    refine ⟨ls, _, _, _, rfl, rfl, SqL.of (b4 _ _ hls nlsf), ea, ?_⟩
    refine ⟨_, rfl, _, rfl, _, rfl, ls, _, rfl, .inl (SqL.of (b4 _ _ hls nlsf)), fe, cc, _, n + 2, rfl, by rw [slen]; omega, by rw [slen]; omega, F4, by omega, fun H5 r5 r50 r51 b5 F5 => ?_⟩
    obtain ⟨b, hb, eb⟩ := pick r50 r51
    refine ⟨ls, _, _, _, rfl, rfl, SqL.of (b5 _ _ (b4 _ _ hls nlsf) nlsf), eb, ?_⟩
    refine ⟨_, rfl, fe, cc, 9, n + 3, rfl, by decide, by decide, F5, by omega, fun H6 wy w0 w9 b6 F6 => ?_⟩
    have b36 : But fe H H6 := b3.trans (b4.trans (b5.trans b6))
    have S6 := S.but b36 nDf nLf nTf
    have hpl6 := b36 _ _ hpl npf
    refine ⟨_, rfl, _, _, rfl, rfl, _, rfl, ?_⟩
    refine ite2 (fun c => ?_) (fun c => ?_)
    · -- come
      refine ⟨_, rfl, _, rfl, fe, cc, 26, n + 4, rfl, by decide, by decide, F6, by omega, fun H7 r7 r70 r71 b7 F7 => ?_⟩
      obtain ⟨x7, hx7, ex7⟩ := name r70 r71
      refine ⟨pl, _, _, _, rfl, rfl, SqL.of (b7 _ _ hpl6 npf), ex7, (by show 2 ≤ sizeLine; decide), fun u nu => ?_⟩
      have su := same_upd (o := .tup [.str "come", .str x7]) nu
      exact k _ (.come x7) u (b36.trans (b7.trans (But.of su))) ((F7.same su).more (by omega)) upd_same hx7 hx7
    · have w2 : 2 ≤ wy := by
        by_cases z : wy < 2
        · exact absurd (decide_eq_true z) c
        · omega
      refine ⟨_, rfl, rfl, _, rfl, ?_⟩
      refine ite2 (fun c2 => ?_) (fun c2 => ?_)
      · refine ⟨_, rfl, (by show 2 ≤ sizeLine; decide), fun u nu => ?_⟩
        have su := same_upd (o := .tup [.str "go", .str a]) nu
        exact k _ (.go a) u (b36.trans (But.of su)) ((F6.same su).more (by omega)) upd_same True.intro ha
      · have w3 : wy ≠ 2 := fun z => c2 (decide_eq_true (by rw [z]))
        refine ⟨_, rfl, rfl, _, rfl, ?_⟩
        refine ite2 (fun c3 => ?_) (fun c3 => ?_)
        · refine ⟨_, rfl, _, rfl, (by show 3 ≤ sizeLine; decide), fun u nu => ?_⟩
          have su := same_upd (o := .tup [.str "far", .str a, .str b]) nu
          exact k _ (.far a b) u (b36.trans (But.of su)) ((F6.same su).more (by omega)) upd_same True.intro ⟨ha, hb⟩
        · have w4 : wy ≠ 3 := fun z => c3 (decide_eq_true (by rw [z]))
          refine ⟨_, rfl, _, _, rfl, rfl, _, rfl, ?_⟩
          refine ite2 (fun c4 => ?_) (fun c4 => iteF ?_)
          rotate_left
          · skip
            refine ⟨_, rfl, rfl, _, rfl, ?_⟩
            refine ite2 (fun _ => ?_) (fun _ => ?_)
            · refine ⟨_, rfl, _, rfl, (by show 3 ≤ sizeLine; decide), fun u nu => ?_⟩
              have su := same_upd (o := .tup [.str "take", .str a, .str b]) nu
              exact k _ (.take a b) u (b36.trans (But.of su)) ((F6.same su).more (by omega)) upd_same True.intro ⟨ha, hb⟩
            · refine ⟨_, rfl, _, rfl, _, rfl, fe, cc, 9, (n + 4), rfl, by decide, by decide, F6, by omega, fun H9 r r0 r9 b9 F9 => ⟨_, _, rfl, rfl, (by show 4 ≤ sizeLine; decide), fun u nu => ?_⟩⟩
              have su := same_upd (o := .tup [.str "lay", .str a, .str b, .int (1 + r)]) nu
              exact k _ (.lay a b (1 + r)) u (b36.trans (b9.trans (But.of su))) ((F9.same su).more (by omega)) upd_same ⟨by omega, by omega⟩ ⟨ha, hb⟩
          have w6 : wy < 6 := of_decide_eq_true c4
          refine ⟨_, rfl, D, _, rfl, gT S6.d, fun e ne => ⟨T, e, _, rfl, rfl, same_upd ne _ _ S6.t, upd_same, _, rfl, ?_⟩⟩
          have se : Same H6 (upd H6 e (.dK [])) := same_upd ne
          have b7 : But fe H (upd H6 e (.dK [])) := b36.trans (But.of se)
          have F7 := F6.same se
          have S7 := S6.same se
          generalize upd H6 e (.dK []) = H7 at se b7 F7 S7
          refine ite2 (fun c5 => ?_) (fun c5 => iteF ?_)
          rotate_left
          · skip
            refine ⟨_, rfl, rfl, _, rfl, ?_⟩
            refine ite2 (fun _ => ?_) (fun _ => ?_)
            · refine ⟨_, rfl, _, rfl, (by show 3 ≤ sizeLine; decide), fun u nu => ?_⟩
              have su := same_upd (o := .tup [.str "take", .str a, .str b]) nu
              exact k _ (.take a b) u (b7.trans (But.of su)) ((F7.same su).more (by omega)) upd_same True.intro ⟨ha, hb⟩
            · refine ⟨_, rfl, _, rfl, _, rfl, fe, cc, 9, (n + 4), rfl, by decide, by decide, F7, by omega, fun H9 r r0 r9 b9 F9 => ⟨_, _, rfl, rfl, (by show 4 ≤ sizeLine; decide), fun u nu => ?_⟩⟩
              have su := same_upd (o := .tup [.str "lay", .str a, .str b, .int (1 + r)]) nu
              exact k _ (.lay a b (1 + r)) u (b7.trans (b9.trans (But.of su))) ((F9.same su).more (by omega)) upd_same ⟨by omega, by omega⟩ ⟨ha, hb⟩
          have epos : 0 < es.length := by
            rw [List.length_map] at c5
            rcases Nat.eq_zero_or_pos es.length with z | z
            · rw [z] at c5; simp at c5
            · exact z
          refine ⟨_, rfl, fe, cc, 2, n + 4, rfl, by decide, by decide, F7, by omega, fun H8 r8 r80 r81 b8' F8 => ⟨rfl, _, rfl, ?_⟩⟩
          have b8 : But fe H H8 := b7.trans b8'
          have S8 := S.but b8 nDf nLf nTf
          refine ite2 (fun c6 => ?_) (fun c6 => ?_)
          rotate_left
          · skip
            refine ⟨_, rfl, rfl, _, rfl, ?_⟩
            refine ite2 (fun _ => ?_) (fun _ => ?_)
            · refine ⟨_, rfl, _, rfl, (by show 3 ≤ sizeLine; decide), fun u nu => ?_⟩
              have su := same_upd (o := .tup [.str "take", .str a, .str b]) nu
              exact k _ (.take a b) u (b8.trans (But.of su)) ((F8.same su).more (by omega)) upd_same True.intro ⟨ha, hb⟩
            · refine ⟨_, rfl, _, rfl, _, rfl, fe, cc, 9, (n + 5), rfl, by decide, by decide, F8, by omega, fun H9 r r0 r9 b9 F9 => ⟨_, _, rfl, rfl, (by show 4 ≤ sizeLine; decide), fun u nu => ?_⟩⟩
              have su := same_upd (o := .tup [.str "lay", .str a, .str b, .int (1 + r)]) nu
              exact k _ (.lay a b (1 + r)) u (b8.trans (b9.trans (But.of su))) ((F9.same su).more (by omega)) upd_same ⟨by omega, by omega⟩ ⟨ha, hb⟩
          -- one of the ties
          refine ⟨_, rfl, D, _, rfl, gT S8.d, T, tab es, rfl, .inl S8.t, tab_alike es, tab_sortable es, tab_depth es, fun q ys cs nq pm up kz => ?_⟩
          have sq : Same H8 (upd H8 q (.lst ys)) := same_upd nq
          have hq : (upd H8 q (.lst ys)) q = some (.lst ys) := upd_same
          obtain ⟨_, _, _, hf8, _⟩ := id F8
          have nqf : q ≠ fe := (ne_of_none hf8 nq).symm
          have S9 := S8.same sq
          have lys : ys.length = es.length := by
            have z := Paired.length kz
            rw [z, pm.length_eq, List.length_map, List.length_map]
          refine ⟨_, rfl, _, rfl, D, _, rfl, gT S9.d, T, _, rfl, S9.t, fe, cc, _, n + 5, rfl, by rw [List.length_map]; omega, by rw [List.length_map]; omega, F8.same sq, by omega, fun HA rA rA0 rA1 bA FA => ?_⟩
          obtain ⟨kA, rfl⟩ : ∃ kA : Nat, rA = (kA : Int) := ⟨rA.toNat, (Int.toNat_of_nonneg rA0).symm⟩
          rw [List.length_map] at rA1
          obtain ⟨vk, hvk⟩ : ∃ vk, ys[kA]? = some vk := ⟨_, List.getElem?_eq_getElem (by omega)⟩
          rw [tab_keys] at pm
          obtain ⟨ks, rfl, pks⟩ := keys_back pm
          obtain ⟨kx, hkx, bk, rfl, hbk⟩ := paired_at2 kz hvk
          rw [List.getElem?_map] at hkx
          cases ekx : ks[kA]? with
          | none => rw [ekx] at hkx; cases hkx
          | some kp =>
            rw [ekx] at hkx
            obtain rfl : kk kp = kx := Option.some.inj hkx
            have mkp : kp ∈ es.map pk := pks.mem_iff.mp (List.mem_of_getElem? ekx)
            obtain ⟨te, hte, rfl⟩ := List.mem_map.mp mkp
            have pte := tok te hte
            have tx8 : TX H8 HA := (TX.of sq).trans (TX.but bA (by rw [sq _ _ hf8]; exact True.intro))
            have hbA : HA bk = some (.tup [.str te.1, .str te.2.1]) := tx8 _ _ hbk
            have b0A : But fe H HA := b8.trans ((But.of sq).trans bA)
            refine ⟨q, _, _, _, rfl, rfl, SqL.of (bA _ _ hq nqf), atI_nat hvk, ?_⟩
            refine ⟨_, rfl, bk, _, _, _, rfl, rfl, SqT.of hbA, rfl, _, rfl, bk, _, _, _, rfl, rfl, SqT.of hbA, rfl, (by show 3 ≤ sizeLine; decide), fun u1 nu1 => ?_⟩
            have su1 : Same HA (upd HA u1 (.tup [.str "take", .str te.2.1, .str te.1])) := same_upd nu1
            have hu1 : (upd HA u1 (.tup [.str "take", .str te.2.1, .str te.1])) u1 = some (.tup [.str "take", .str te.2.1, .str te.1]) := upd_same
            generalize upd HA u1 (.tup [.str "take", .str te.2.1, .str te.1]) = HB at su1 hu1
            have hbB := su1 _ _ hbA
            have FB := FA.same su1
            obtain ⟨_, _, _, hfB, _⟩ := id FB
            refine ⟨_, rfl, bk, _, _, _, rfl, rfl, SqT.of hbB, rfl, _, rfl, bk, _, _, _, rfl, rfl, SqT.of hbB, rfl, _, rfl, fe, cc, 9, n + 6, rfl, by decide, by decide, FB, by omega, fun HC r r0 r9 bC FC => ⟨_, _, rfl, rfl, (by show 4 ≤ sizeLine; decide), fun u2 nu2 => ⟨(by show 2 ≤ sizeLine; decide), fun ll nll => ?_⟩⟩⟩
            have txC : TX HB HC := TX.but bC (by rw [hfB]; exact True.intro)
            have su2 := same_upd (o := .tup [.str "lay", .str te.2.1, .str te.1, .int (1 + r)]) nu2
            have sll := same_upd (o := .lst [.ref u1, .ref u2]) nll
            have s2l := su2.trans sll
            have b0E := b0A.trans ((But.of su1).trans (bC.trans (But.of s2l)))
            have FE := (FC.same s2l).more (m := n + 8) (by omega)
            have w45 : wy = 4 ∨ wy = 5 := by omega
            rcases w45 with rfl | rfl
            · exact ⟨_, rfl, _, _, rfl, rfl, ll, _, _, .ref u1, rfl, rfl, SqL.of upd_same, rfl, k _ (.take te.2.1 te.1) u1 b0E FE (s2l _ _ (txC _ _ hu1)) True.intro ⟨pte.2, pte.1⟩⟩
            · exact ⟨_, rfl, _, _, rfl, rfl, ll, _, _, .ref u2, rfl, rfl, SqL.of upd_same, rfl, k _ (.lay te.2.1 te.1 (1 + r)) u2 b0E FE (sll _ _ upd_same) ⟨by omega, by omega⟩ ⟨pte.2, pte.1⟩⟩
end
end L2.T
set_option maxHeartbeats 2000000
/-! A net's text is short. -/
namespace L2.T
open PySem PySem.Spec PyProof.Rows
open PySem.W (dataLt dataLe alike AllAlike Sortable EachIs)
open Thin
theorem piled_le {b : Nat} : ∀ {ts : List Str}, (∀ t ∈ ts, t.length ≤ b) → piled ts ≤ ts.length * (b + 2)
  | [], _ => by simp [piled]
  | t :: r, h => by
    have a := piled_le (b := b) (ts := r) fun u hu => h u (List.mem_cons_of_mem _ hu)
    have c := h t List.mem_cons_self
    have e : piled (t :: r) = t.length + 2 + piled r := by simp [piled]; try omega
    rw [List.length_cons, Nat.succ_mul]
    omega
theorem tupleText_le {b : Nat} {ts : List Str} (h : ∀ t ∈ ts, t.length ≤ b) : (tupleText ts).length ≤ ts.length * (b + 2) + 3 := by
  have p := piled_le h
  have e : (tupleText ts).length = 1 + (Str.join ", " ts).length + (if ts.length == 1 then 2 else 1) := by
    unfold tupleText
    rw [app_len, app_len]
    have e1 : ("(" : Str).length = 1 := by decide +kernel
    rw [e1]
    by_cases c : ts.length == 1
    · rw [if_pos c, if_pos c]
      have e2 : (",)" : Str).length = 2 := by decide +kernel
      rw [e2]
    · rw [if_neg c, if_neg c]
      have e2 : (")" : Str).length = 1 := by decide +kernel
      rw [e2]
  have j : (Str.join ", " ts).length ≤ piled ts := by
    cases ts with
    | nil => exact Nat.zero_le _
    | cons a r =>
      have := join_length_add (a :: r) (by simp)
      omega
  rw [e]
  split <;> omega
theorem pool_small : ∀ p ∈ pool, ∀ c ∈ p.cps.toList, c < 16 ^ 8 := by decide +kernel
theorem name_shown {p : Str} (h : p ∈ pool) : (PyData.shown (.str p)).length ≤ 82 := by
  have e : PyData.shown (.str p) = reprText p := by simp [PyData.shown]
  rw [e]
  have a := StrLaws.reprText_len p (pool_small p h)
  have b := (pool_letters p h).2.2
  omega
theorem int_shown {n : Int} (h1 : 1 ≤ n) (h9 : n ≤ 9) : (PyData.shown (.int n)).length ≤ 82 := by
  have e : PyData.shown (.int n) = ((toString n : String) : Str) := by simp [PyData.shown]
  rw [e]
  have c : n = 1 ∨ n = 2 ∨ n = 3 ∨ n = 4 ∨ n = 5 ∨ n = 6 ∨ n = 7 ∨ n = 8 ∨ n = 9 := by omega
  have l : ∀ s : String, (s : Str).length = (s : Str).length := fun _ => rfl
  rcases c with rfl | rfl | rfl | rfl | rfl | rfl | rfl | rfl | rfl
  · show ("1" : Str).length ≤ 82
    decide +kernel
  · show ("2" : Str).length ≤ 82
    decide +kernel
  · show ("3" : Str).length ≤ 82
    decide +kernel
  · show ("4" : Str).length ≤ 82
    decide +kernel
  · show ("5" : Str).length ≤ 82
    decide +kernel
  · show ("6" : Str).length ≤ 82
    decide +kernel
  · show ("7" : Str).length ≤ 82
    decide +kernel
  · show ("8" : Str).length ≤ 82
    decide +kernel
  · show ("9" : Str).length ≤ 82
    decide +kernel
theorem shownAll_map {β : Type} (enc : β → PyData) : ∀ bs : List β, PyData.shownAll (bs.map enc) = bs.map fun b => PyData.shown (enc b)
  | [] => by simp [PyData.shownAll]
  | b :: bs => by
    rw [List.map_cons, List.map_cons, ← shownAll_map enc bs]
    simp [PyData.shownAll]
theorem showableAll_map {β : Type} (enc : β → PyData) : ∀ bs : List β, (∀ b ∈ bs, PyData.showable (enc b) = true) → PyData.showableAll (bs.map enc) = true
  | [], _ => by simp [PyData.showableAll]
  | b :: bs, h => by
    have a := showableAll_map enc bs fun c hc => h c (List.mem_cons_of_mem _ hc)
    have c := h b List.mem_cons_self
    simp [PyData.showableAll, a, c]
theorem noDictAll_map {β : Type} (enc : β → PyData) : ∀ bs : List β, (∀ b ∈ bs, PyData.hasDict (enc b) = false) → PyData.hasDictAll (bs.map enc) = false
  | [], _ => by simp [PyData.hasDictAll]
  | b :: bs, h => by
    have a := noDictAll_map enc bs fun c hc => h c (List.mem_cons_of_mem _ hc)
    have c := h b List.mem_cons_self
    simp [PyData.hasDictAll, a, c]
/-- what may be told of a net: its text is short -/
structure Tells (d : PyData) (n : Nat) : Prop where
  sh : d.showable = true
  nd : d.hasDict = false
  len : d.shown.length ≤ n
theorem tells_tuple {ds : List PyData} {n m : Nat} (h : ∀ d ∈ ds, Tells d n) (hm : ds.length ≤ m) : Tells (.tuple ds) (m * (n + 2) + 3) := by
  have i : ds.map id = ds := List.map_id ds
  refine ⟨?_, ?_, ?_⟩
  · have e : PyData.showableAll (ds.map id) = true := showableAll_map id ds fun d hd => (h d hd).sh
    rw [i] at e
    simp [PyData.showable, e]
  · have e : PyData.hasDictAll (ds.map id) = false := noDictAll_map id ds fun d hd => (h d hd).nd
    rw [i] at e
    simp [PyData.hasDict, e]
  · have e : PyData.shownAll (ds.map id) = ds.map fun b => PyData.shown (id b) := shownAll_map id ds
    rw [i] at e
    have e2 : PyData.shown (.tuple ds) = tupleText (PyData.shownAll ds) := by simp [PyData.shown]
    rw [e2, e]
    have b := tupleText_le (b := n) (ts := ds.map fun b => PyData.shown (id b)) fun t ht => by
      obtain ⟨d, hd, rfl⟩ := List.mem_map.mp ht
      exact (h d hd).len
    rw [List.length_map] at b
    have mm : ds.length * (n + 2) ≤ m * (n + 2) := Nat.mul_le_mul hm (Nat.le_refl _)
    omega
theorem tells_name {p : Str} (h : p ∈ pool) : Tells (.str p) 82 := ⟨by simp [PyData.showable], by simp [PyData.hasDict], name_shown h⟩
theorem tells_int {n : Int} (h1 : 1 ≤ n) (h9 : n ≤ 9) : Tells (.int n) 82 := by
  refine ⟨?_, by simp [PyData.hasDict], int_shown h1 h9⟩
  have c : n = 1 ∨ n = 2 ∨ n = 3 ∨ n = 4 ∨ n = 5 ∨ n = 6 ∨ n = 7 ∨ n = 8 ∨ n = 9 := by omega
  simp only [PyData.showable]
  rcases c with rfl | rfl | rfl | rfl | rfl | rfl | rfl | rfl | rfl <;> decide +kernel
theorem tells_tie {t : Tie} (h1 : t.1 ∈ pool) (h2 : t.2.1 ∈ pool) (h3 : 1 ≤ t.2.2) (h4 : t.2.2 ≤ 9) : Tells (tieD t) 255 := tells_tuple (n := 82) (m := 3) (fun d hd => by
  rcases List.mem_cons.mp hd with e | hd
  · rw [e]; exact tells_name h1
  · rcases List.mem_cons.mp hd with e | hd
    · rw [e]; exact tells_name h2
    · rw [List.mem_singleton.mp hd]; exact tells_int h3 h4) (Nat.le_refl _)
theorem Tells.more {d : PyData} {n m : Nat} (h : Tells d n) (l : n ≤ m) : Tells d m := ⟨h.sh, h.nd, Nat.le_trans h.len l⟩
theorem tells_net {ps : List Str} {ts ks : List Tie} (N : NetOk ps ts) (sub : ∀ t ∈ ks, t ∈ ts) (few : ks.length ≤ ts.length) : Tells (netD ps ks) 30853 := tells_tuple (n := 15423) (m := 2) (fun d hd => by
  rcases List.mem_cons.mp hd with e | hd
  · rw [e]
    exact (tells_tuple (n := 82) (m := 24) (fun d hd => by
      obtain ⟨p, hp, rfl⟩ := List.mem_map.mp hd
      exact tells_name (N.inPool p hp)) (by rw [List.length_map]; exact N.few)).more (by decide)
  · rw [List.mem_singleton.mp hd]
    exact tells_tuple (n := 255) (m := 60) (fun d hd => by
      obtain ⟨t, ht, rfl⟩ := List.mem_map.mp hd
      have q := TOk.of N t (sub t ht)
      have l := N.lens t (sub t ht)
      exact tells_tie q.1 q.2 l.1 l.2) (by rw [List.length_map]; exact Nat.le_trans few N.tfew)) (Nat.le_refl _)
theorem depth_net (ps : List Str) (ts : List Tie) : (netD ps ts).depth ≤ 6 := by
  have a : ∀ ps : List Str, PyData.depthAll (ps.map PyData.str) = 0 := fun ps => by
    induction ps with
    | nil => simp [PyData.depthAll]
    | cons p r ih => simp [PyData.depthAll, PyData.depth, ih]
  have b : ∀ ts : List Tie, PyData.depthAll (ts.map tieD) ≤ 2 := fun ts => by
    induction ts with
    | nil => simp [PyData.depthAll]
    | cons p r ih =>
      have e : PyData.depthAll ((p :: r).map tieD) = max (PyData.depth (tieD p)) (PyData.depthAll (r.map tieD)) := by simp [PyData.depthAll]
      have e2 : PyData.depth (tieD p) ≤ 2 := by simp [tieD, PyData.depth, PyData.depthAll]
      omega
  have e : (netD ps ts).depth = max (PyData.depthAll (ps.map PyData.str) + 1) (PyData.depthAll (ts.map tieD) + 1) + 1 := by simp [netD, PyData.depth, PyData.depthAll]
  have := a ps
  have := b ts
  omega
theorem tells_two {d e : PyData} {n : Nat} (h1 : Tells d n) (h2 : Tells e n) : Tells (.tuple [d, e]) (2 * (n + 2) + 3) := tells_tuple (n := n) (m := 2) (fun x hx => by
  rcases List.mem_cons.mp hx with z | z
  · rw [z]; exact h1
  · rw [List.mem_singleton.mp z]; exact h2) (Nat.le_refl _)
end L2.T
set_option maxHeartbeats 1000000
namespace L2.T
open PySem PySem.Spec PyProof.Rows
open PySem.W (dataLt dataLe alike AllAlike Sortable EachIs)
open Thin
/-- an if ahead of a rest: both ways come to a state of which Pre holds -/
theorem seqIf_join {tc : TT} {ta tb u : TS} {D : Ends} {σ : St} {H : Hp} (Pre : St → Hp → Prop) (rest : ∀ σ' H', Pre σ' H' → u D σ' H') (go : ∀ nx : St → Hp → Prop, (∀ σ' H', Pre σ' H' → nx σ' H') → tIfS tc ta tb { D with nx := nx } σ H) : tSeq (tIfS tc ta tb) u D σ H := go (u D) rest
theorem gName_then {i : Nat} {v : V} {σ : St} {H : Hp} {Q : St → Hp → Prop} (h : Q (σ.set i (some v)) H) : gName i v σ H Q := h
def spLaw (K : PySem.W.Frag) : Sp := fun vs H Q _ => ∃ (a : Addr) (ns : List Int), vs = [.ref a] ∧ SqL K H a (ns.map V.int) ∧ ∀ H', Q (.bl true) H'
abbrev sLaw : Stmt := topS 53
abbrev nLaw : List Str := ["_law_script", "_law_feed_here", "_law_times_here", "_law_way", "_law_keeper", "_law_state", "_law_k", "_law_deed_here", "_law_place", "_law_ahead", "_law_due_here"]
theorem way_at {r : Int} (h0 : 0 ≤ r) (h4 : r < 4) : ∃ w : Int, (w = 0 ∨ w = 1) ∧ atI [V.int 1, V.int 0, V.int 0, V.int 0] r = some (.int w) := by
  have c : r = 0 ∨ r = 1 ∨ r = 2 ∨ r = 3 := by omega
  rcases c with rfl | rfl | rfl | rfl
  · exact ⟨1, .inr rfl, rfl⟩
  · exact ⟨0, .inl rfl, rfl⟩
  · exact ⟨0, .inl rfl, rfl⟩
  · exact ⟨0, .inl rfl, rfl⟩
theorem turns_at {wy r : Int} (h : wy = 0 ∨ wy = 1 ∨ wy = 2) (r0 : 0 ≤ r) (r11 : r < 11) : ∃ c : Nat, c ≤ 14 ∧ atI [V.int (4 + r), V.int 8, V.int 5] wy = some (.int (c : Int)) := by
  rcases h with rfl | rfl | rfl
  · refine ⟨(4 + r).toNat, by omega, ?_⟩
    rw [Int.toNat_of_nonneg (by omega)]
    rfl
  · exact ⟨8, by decide, rfl⟩
  · exact ⟨5, by decide, rfl⟩
/-- all but two places stand -/
def But2 (l t : Addr) (H H' : Hp) : Prop := ∀ b o, H b = some o → b ≠ l → b ≠ t → H' b = some o
theorem FeedAt.but2 {K : PySem.W.Frag} {cc l t : Addr} {H H' : Hp} {f : Addr} {n : Nat} (e : But2 l t H H') (h : FeedAt K cc H f n) (n1 : f ≠ l) (n2 : f ≠ t) (n3 : cc ≠ l) (n4 : cc ≠ t) : FeedAt K cc H' f n := by
  obtain ⟨a, d, ms, h1, h2, h3⟩ := h
  exact ⟨a, d, ms, e _ _ h1 n1 n2, e _ _ h2 n3 n4, h3⟩
theorem TupK.but22 {l t : Addr} {H H' : Hp} {xs : List V} {kvs : List (List Key × V)} (e : But2 l t H H') (hl : H l = some (.lst xs)) (ht : H t = some (.dT kvs)) : TupK H H' := fun a ys q => by
  rcases q with q | ⟨o, q⟩
  · exact .inl (e _ _ q (ne_of q hl (fun z => nomatch z)) (ne_of q ht (fun z => nomatch z)))
  · exact .inr ⟨o, e _ _ q (ne_of q hl (fun z => nomatch z)) (ne_of q ht (fun z => nomatch z))⟩
theorem word_at (d : Deed) : atI (dvs d) 0 = some (.str d.word) := by cases d <;> rfl
theorem may_of {lps ps : List Str} {es ts : List Tie} {d : Deed} (LN : LawNet ps ts lps es) (h : due ps ts d = "ok") (nf : ¬ d.word = "far") : mayDo lps es d := by
  cases d with
  | come a => exact True.intro
  | go a =>
    show a ∈ lps
    simp only [due] at h
    by_cases c : a ∈ ps
    · exact LN.pl.mem_iff.mpr c
    · rw [if_neg c] at h
      exact absurd h no_place
  | far a b => exact nf rfl
  | lay a b n => exact True.intro
  | take a b =>
    show joined (pr a b) es = true
    rw [joined_perm LN.ti]
    simp only [due] at h
    by_cases c : a ∈ ps ∧ b ∈ ps
    · rw [if_pos c] at h
      by_cases j : joined (pr a b) ts = true
      · exact j
      · rw [if_neg j] at h
        exact absurd h no_tie
    · rw [if_neg c] at h
      exact absurd h no_place
theorem tie_due_lay {ps : List Str} {ts : List Tie} {a : Str} {n : Int} (h : a ∈ ps) : due ps ts (.lay a a n) = "tie" := by
  simp only [due]
  rw [if_pos ⟨h, h⟩]
  simp
theorem tie_due_take {ps : List Str} {ts : List Tie} {a : Str} (N : NetOk ps ts) (h : a ∈ ps) : due ps ts (.take a a) = "tie" := by
  simp only [due]
  have j : ¬ joined (pr a a) ts = true := fun z => by
    obtain ⟨t, ht, et⟩ := List.any_eq_true.mp z
    have e := of_decide_eq_true et
    rw [pr_same] at e
    have q := (N.ends t ht).2.2
    have e1 : t.1 = a := congrArg Prod.fst e
    have e2 : t.2.1 = a := congrArg Prod.snd e
    rw [e1, e2] at q
    exact sLt_irr _ q
  rw [if_pos ⟨h, h⟩, if_neg j]
section
variable {P : Program} {w : World} {K : PySem.W.Frag} {mg : Str → Option Value} {base : Heap}
theorem scLw2 : FnScope nLaw ["_law_script"] (defScope sLaw) := ⟨rfl, rfl, rfl, by decide +kernel, rfl, by decide +kernel, by decide +kernel⟩
theorem ok_law {f C fFd fTi fX fBe fD fNm fU fT fO fNo fN fH : Addr} {fd fdFd fdTi fdX fdBe fdD fdNm fdU fdT fdO fdNo fdN fdH : FuncData} (A : At K mg "law" "law" sLaw f fd) (T : KTxt K mg C) (B : Blt mg)
    (Fd : At K mg "_law_feed" "_law_feed" sFeed fFd fdFd) (bFd : Binds K fdFd ["_law_script"] []) (GFd : FnOk P w K mg base CX0 1 fFd fdFd ["_law_script"] (spFeed K))
    (Ti : At K mg "_law_times" "_law_times" sTimes fTi fdTi) (bTi : Binds K fdTi ["_law_feed_here"] []) (GTi : FnOk P w K mg base CX0 2 fTi fdTi ["_law_feed_here"] (spTimes K))
    (X : At K mg "_law_next" "_law_next" sNext fX fdX) (bX : Binds K fdX ["_law_feed_here", "_law_many"] []) (GX : FnOk P w K mg base CX0 1 fX fdX ["_law_feed_here", "_law_many"] (spNext K))
    (Be : At K mg "_law_begun" "_law_begun" sBegun fBe fdBe) (bBe : Binds K fdBe ["_law_feed_here", "_law_times_here", "_law_way"] []) (GBe : FnOk P w K mg base CX0 8 fBe fdBe ["_law_feed_here", "_law_times_here", "_law_way"] (spBegun K C))
    (Dd : At K mg "_law_deed" "_law_deed" sDeed fD fdD) (bD : Binds K fdD ["_law_feed_here", "_law_state", "_law_pool"] []) (GD : FnOk P w K mg base CX0 2 fD fdD ["_law_feed_here", "_law_state", "_law_pool"] (spDeed K))
    (Nm : At K mg "_law_names" "_law_names" sNames fNm fdNm) (bNm : Binds K fdNm [] []) (GNm : FnOk P w K mg base CX0 1 fNm fdNm [] (spNames K))
    (Du : At K mg "_law_due" "_law_due" sDue fU fdU) (bU : Binds K fdU ["_law_state", "_law_deed_here"] []) (GU : FnOk P w K mg base CX0 2 fU fdU ["_law_state", "_law_deed_here"] (spDue K))
    (Tr : At K mg "_law_tried" "_law_tried" sTried fT fdT) (bT : Binds K fdT ["_law_keeper", "_law_deed_here"] []) (GT : FnOk P w K mg base CX0 9 fT fdT ["_law_keeper", "_law_deed_here"] (spTried K C))
    (Do : At K mg "_law_do" "_law_do" sDo fO fdO) (bO : Binds K fdO ["_law_state", "_law_deed_here"] []) (GO : FnOk P w K mg base CX0 2 fO fdO ["_law_state", "_law_deed_here"] (spDo K))
    (No : At K mg "_law_net_of" "_law_net_of" sNetOf fNo fdNo) (bNo : Binds K fdNo ["_law_state"] []) (GNo : FnOk P w K mg base CX0 1 fNo fdNo ["_law_state"] (spNetOf K))
    (MN : Me K C "net" "Keeper.net" (sKeep 8) fN fdN) (bN : Binds K fdN ["self"] []) (GN : FnOk P w K mg base CX0 1 fN fdN ["self"] (spNet K C))
    (MH : Me K C "thin" "Keeper.thin" (sKeep 9) fH fdH) (bH : Binds K fdH ["self"] []) (GH : FnOk P w K mg base CX0 1 fH fdH ["self"] (spThinNet K C)) : FnG P w K mg base 10 f fd ["_law_script"] (spLaw K) := by
  refine Fun_okG A.F scLw2 (fun vs H Q E h => ?_) (fun cdv A outer s H vs Q hr hg h => ?_)
  · obtain ⟨a, ns, rfl, _⟩ := h
    rfl
  · obtain ⟨a, ns, rfl, hs, k⟩ := h
    have hu := hu_of hr
    have hr1 : Room 1 _ := hr.mono (by decide)
    have hr2 : Room 2 _ := hr.mono (by decide)
    have hr8 : Room 8 _ := hr.mono (by decide)
    refine ⟨_, (pss_cons (ps_set (i := 1) scLw2.nd rfl (Or.inl rfl) (pe_call GFd hr1 (by rfl) Fd.g Fd.F.kp bFd .nil pass0 (pa_cons (pv 0) pa_nil))) (pss_cons (ps_set (i := 2) scLw2.nd rfl (Or.inl rfl) (pe_call GTi hr2 (by rfl) Ti.g Ti.F.kp bTi .nil pass0 (pa_cons (pv 1) pa_nil))) (pss_cons (ps_set (i := 3) scLw2.nd rfl (Or.inl rfl) (pe_ix ix_list (pe_lst (pa_cons pe_int (pa_cons pe_int (pa_cons pe_int (pa_cons pe_int pa_nil))))) (pe_call GX hr1 (by rfl) X.g X.F.kp bX .nil pass0 (pa_cons (pv 1) (pa_cons pe_int pa_nil))) (fun _ _ => rfl))) (pss_cons (ps_if (pt_cmpR op_eq (pe_call GX hr1 (by rfl) X.g X.F.kp bX .nil pass0 (pa_cons (pv 1) (pa_cons pe_int pa_nil))) pe_int (nomark _)) (pss_one (ps_set (i := 3) scLw2.nd rfl (Or.inl rfl) pe_int)) pss_nil) (pss_cons (ps_asg (pe_call GBe hr8 (by rfl) Be.g Be.F.kp bBe .nil pass0 (pa_cons (pv 1) (pa_cons (pv 2) (pa_cons (pv 3) pa_nil)))) (pg_tup (by rfl) (pgs_cons (pg_name (i := 4) scLw2.nd rfl (Or.inl rfl)) (pgs_cons (pg_name (i := 5) scLw2.nd rfl (Or.inl rfl)) pgs_nil)))) (pss_cons (ps_for PassesOwn.never rfl (pi_range1 (by rfl) B.range (pa_cons (pe_ix ix_list (pe_lst (pa_cons (pe_op op_add pe_int (pe_call GX hr1 (by rfl) X.g X.F.kp bX .nil pass0 (pa_cons (pv 1) (pa_cons pe_int pa_nil)))) (pa_cons pe_int (pa_cons pe_int pa_nil)))) (pv 3) (fun _ _ => rfl)) pa_nil)) (pg_name (i := 6) scLw2.nd rfl (Or.inl rfl)) (pss_cons (ps_set (i := 7) scLw2.nd rfl (Or.inl rfl) (pe_call GD hr2 (by rfl) Dd.g Dd.F.kp bD .nil pass0 (pa_cons (pv 1) (pa_cons (pv 5) (pa_cons (pe_call0 GNm hr1 (by rfl) Nm.g Nm.F.kp bNm .nil pass0) pa_nil))))) (pss_cons (ps_if (PW.pt (pw_and (pt_cmpR op_eq (pv 3) pe_int (nomark _)) (pw_and1 (pt_cmpR op_lt (pv 6) pe_int (nomark _))))) (pss_cons (ps_set (i := 8) scLw2.nd rfl (Or.inl rfl) (pe_ix ix_list (pe_dget hu (pv 5) pe_str (fun _ _ => rfl)) (pe_call GX hr1 (by rfl) X.g X.F.kp bX .nil pass0 (pa_cons (pv 1) (pa_cons pe_int pa_nil))) (fun _ _ => rfl))) (pss_one (ps_set (i := 7) scLw2.nd rfl (Or.inl rfl) (pe_ix ix_list (pe_lst (pa_cons (pe_tup (pa_cons pe_str (pa_cons (pv 8) (pa_cons (pv 8) (pa_cons pe_int pa_nil))))) (pa_cons (pe_tup (pa_cons pe_str (pa_cons (pv 8) (pa_cons (pv 8) pa_nil)))) pa_nil))) (pv 6) (fun _ _ => rfl))))) pss_nil) (pss_cons (ps_set (i := 9) scLw2.nd rfl (Or.inl rfl) (pe_callB (call_reprD hg hr.units) (by rfl) B.repr (by decide +kernel) (pa_cons (pe_tup (pa_cons (pe_meth0 (pv 4) T.cl MN.m GN hr1 bN .nil pass0) (pa_cons (pe_meth0 (pv 4) T.cl MH.m GH hr1 bH .nil pass0) pa_nil))) pa_nil))) (pss_cons (ps_set (i := 10) scLw2.nd rfl (Or.inl rfl) (pe_call GU hr2 (by rfl) Du.g Du.F.kp bU .nil pass0 (pa_cons (pv 5) (pa_cons (pv 7) pa_nil)))) (pss_cons (ps_if (pt_cmpR op_ne (pe_call GT hr (by rfl) Tr.g Tr.F.kp bT .nil pass0 (pa_cons (pv 4) (pa_cons (pv 7) pa_nil))) (pv 10) (nomark _)) (pss_one (ps_ret pe_bl)) pss_nil) (pss_cons (ps_if (PW.pt (pw_and (pt_cmpR op_eq (pv 10) pe_str (nomark _)) (pw_and1 (pt_cmpR op_ne (pe_ix ix_tup (pv 7) pe_int (fun _ _ => rfl)) pe_str (nomark _))))) (pss_one (ps_expr (pe_call GO hr2 (by rfl) Do.g Do.F.kp bO .nil pass0 (pa_cons (pv 5) (pa_cons (pv 7) pa_nil))))) (pss_one (ps_if (pt_cmpR op_ne (pe_callB (call_reprD hg hr.units) (by rfl) B.repr (by decide +kernel) (pa_cons (pe_tup (pa_cons (pe_meth0 (pv 4) T.cl MN.m GN hr1 bN .nil pass0) (pa_cons (pe_meth0 (pv 4) T.cl MH.m GH hr1 bH .nil pass0) pa_nil))) pa_nil)) (pv 9) (nomark _)) (pss_one (ps_ret pe_bl)) pss_nil))) (pss_one (ps_if (pt_cmpR op_ne (pe_callB (call_reprD hg hr.units) (by rfl) B.repr (by decide +kernel) (pa_cons (pe_meth0 (pv 4) T.cl MN.m GN hr1 bN .nil pass0) pa_nil)) (pe_callB (call_reprD hg hr.units) (by rfl) B.repr (by decide +kernel) (pa_cons (pe_call GNo hr1 (by rfl) No.g No.F.kp bNo .nil pass0 (pa_cons (pv 5) pa_nil)) pa_nil)) (nomark _)) (pss_one (ps_ret pe_bl)) pss_nil))))))))) (pss_one (ps_ret pe_bl)))))))), ?_⟩
    refine ⟨_, rfl, a, ns, rfl, hs, fun H1 fe cc s1 F1 => ?_⟩
    refine ⟨_, rfl, fe, cc, 0, rfl, F1, by decide, fun H2 t b2 F2 T2 => ?_⟩
    refine ⟨(by show 4 ≤ sizeLine; decide), fun q nq => ⟨_, rfl, fe, cc, 4, 1, rfl, by decide, by decide, F2.same (same_upd nq), by decide, fun H3 r r0 r4 b3 F3 => ?_⟩⟩
    obtain ⟨w0, hw0, ew0⟩ := way_at r0 r4
    obtain ⟨_, _, _, hf2, _⟩ := id F2
    have sq : Same H2 (upd H2 q (.lst [.int 1, .int 0, .int 0, .int 0])) := same_upd nq
    have nqf : q ≠ fe := (ne_of_none hf2 nq).symm
    have T3 : Times K H3 t := T2.same ((TupK.of sq).trans (TupK.but b3 (by rw [sq _ _ hf2]; exact True.intro)))
    refine ⟨q, _, _, _, rfl, rfl, SqL.of (b3 _ _ upd_same nqf), ew0, gName_then ?_⟩
    dsimp only
    refine seqIf_join (fun σ' H' => ∃ wy : Int, (wy = 0 ∨ wy = 1 ∨ wy = 2) ∧ σ' = [some (.ref a), some (.ref fe), some t, some (.int wy), none, none, none, none, none, none, none] ∧ FeedAt K cc H' fe 3 ∧ Times K H' t) ?_ ?_
    rotate_left
    · intro nx join
      refine ⟨_, rfl, fe, cc, 16, 2, rfl, by decide, by decide, F3, by decide, fun H4 r' r'0 r'16 b4 F4 => ⟨rfl, _, rfl, ?_⟩⟩
      obtain ⟨_, _, _, hf3, _⟩ := id F3
      have T4 : Times K H4 t := T3.same (TupK.but b4 (by rw [hf3]; exact True.intro))
      refine ite2 (fun _ => ?_) (fun _ => ?_)
      · exact join _ _ ⟨2, .inr (.inr rfl), rfl, F4, T4⟩
      · exact join _ _ ⟨w0, by omega, rfl, F4, T4⟩
    · rintro σ H4 ⟨wy, hwy, rfl, F4, T4⟩
      refine ⟨_, rfl, _, rfl, _, rfl, fe, cc, t, wy, 3, rfl, hwy, F4, by decide, T4, fun H5 u p D L T' ps0 ts0 ks0 b5 F5 ncL hu5 KA5 S5 N5 w12 => ?_⟩
      refine ⟨u, _, rfl, SqT.of hu5, rfl, _, _, rfl, _, _, rfl, rfl, ?_⟩
      obtain ⟨dx5, _, _, _, hp5, _⟩ := id KA5
      obtain ⟨_, _, _, hf5, hc5, _⟩ := id F5
      -- who stands apart from whom
      have npf : p ≠ fe := ne_of hp5 hf5 (fun z => nomatch z)
      have ncp : cc ≠ p := ne_of hc5 hp5 (fun z => nomatch z)
      have nDp : D ≠ p := ne_of S5.d hp5 (fun z => nomatch z)
      have nLp : L ≠ p := ne_of S5.l hp5 (fun z => nomatch z)
      have nTp : T' ≠ p := ne_of S5.t hp5 (fun z => nomatch z)
      have nDf : D ≠ fe := ne_of S5.d hf5 (fun z => nomatch z)
      have nTf : T' ≠ fe := ne_of S5.t hf5 (fun z => nomatch z)
      have nLf : L ≠ fe := feed_ne hf5 S5.l
      have ncT : cc ≠ T' := ne_of hc5 S5.t (fun z => nomatch z)
      refine ⟨_, rfl, fe, cc, 11, 6, rfl, by decide, by decide, F5, by decide, fun H6 r6 r60 r611 b6 F6 => ⟨_, _, rfl, rfl, (by show 3 ≤ sizeLine; decide), fun q6 nq6 => ?_⟩⟩
      obtain ⟨cnt, c14, ecnt⟩ := turns_at hwy r60 r611
      have s7 := same_upd (o := .lst [.int (4 + r6), .int 8, .int 5]) nq6
      refine ⟨_, rfl, q6, _, _, _, rfl, rfl, SqL.of upd_same, ecnt, _, rfl, by omega, by omega, ?_⟩
      rw [Int.toNat_natCast]
      have tk6 : TupK H5 H6 := TupK.but b6 (by rw [hf5]; exact True.intro)
      have KA7 := (KA5.but b6 npf tk6).same s7
      have S7 := (S5.but b6 nDf nLf nTf).same s7
      have F7 := F6.same s7
      generalize upd H6 q6 (.lst [.int (4 + r6), .int 8, .int 5]) = H7 at KA7 S7 F7
      refine for_range (lo := 0) (n := cnt) (fun i σ H' => ∃ (lps ps : List Str) (es ts ks : List Tie) (m : Nat) (s6 s7 s8 s9 s10 : Option V), σ = [some (.ref a), some (.ref fe), some t, some (.int wy), some (.ref p), some (.ref D), s6, s7, s8, s9, s10] ∧ FeedAt K cc H' fe m ∧ m ≤ 7 + 10 * i ∧
          KeepAt K C H' p ps ts ks ∧ StateAt H' D L T' lps es ∧ NetOk ps ts ∧ LawNet ps ts lps es ∧ (wy = 2 → i < 2 → lps.length = 12))
        ⟨ps0, ps0, ts0, ts0, ks0, 7, _, _, _, _, _, rfl, F7, by omega, KA7, S7, N5, ⟨List.Perm.refl _, List.Perm.refl _⟩, fun z _ => w12 z⟩ ?_ ?_
      rotate_left
      · rintro σ H8 ⟨lps, ps, es, ts, ks, m, s6, s7, s8, s9, s10, rfl, _⟩
        exact k H8
      · rintro i σ H8 hi ⟨lps, ps, es, ts, ks, m, s6, s7, s8, s9, s10, rfl, F8, hm, KA8, S8, N, LN, l12⟩
        have lps24 : lps.length ≤ 24 := by rw [LN.pl.length_eq]; exact N.few
        have es60 : es.length ≤ 60 := by rw [LN.ti.length_eq]; exact N.tfew
        have inp : ∀ x ∈ lps, x ∈ pool := fun x hx => N.inPool x (LN.pl.mem_iff.mp hx)
        have tok : TOk es := fun x hx => TOk.of N x (LN.ti.mem_iff.mp hx)
        have gP : ∀ {H' : Hp}, H' D = some (.dK (stK L T')) → DGet H' D (.str "places") (some (.ref L)) := fun h => by rw [← st_pl L T']; exact DGet.k (k := Sum.inr "places") h
        refine ⟨_, rfl, _, rfl, rfl, fun HA pl sA hpl => ?_⟩
        have KAA := KA8.same sA
        have FA := F8.same sA
        refine ⟨fe, cc, D, L, T', pl, m, lps, es, rfl, FA, by omega, S8.same sA, hpl, inp, lps24, es60, tok, fun HB d da bB FB hda fine ip => gName_then ?_⟩
        obtain ⟨_, _, _, hfA, _⟩ := id FA
        have tkB : TupK HA HB := TupK.but bB (by rw [hfA]; exact True.intro)
        have KAB := KAA.but bB npf tkB
        have SB := (S8.same sA).but bB nDf nLf nTf
        dsimp only
        refine seqIf_join (fun σ' H' => ∃ (d : Deed) (da : Addr) (m' : Nat) (s8 : Option V), σ' = [some (.ref a), some (.ref fe), some t, some (.int wy), some (.ref p), some (.ref D), some (.int ((0 : Int) + (i : Int))), some (.ref da), s8, s9, s10] ∧ FeedAt K cc H' fe m' ∧ m' ≤ m + 9 ∧
            KeepAt K C H' p ps ts ks ∧ StateAt H' D L T' lps es ∧ SqT K H' da (dvs d) ∧ d.fine ∧ inPool d ∧ (wy = 2 → i < 2 → due ps ts d = "tie")) ?_ ?_
        rotate_left
        · intro nx join
          refine ⟨_, rfl, rfl, _, rfl, ?_⟩
          refine ite2 (fun c1 => ?_) (fun c1 => iteF ?_)
          · have w2 : wy = 2 := by
              have z := of_decide_eq_true c1
              injection z with z
            refine ⟨_, rfl, _, _, rfl, rfl, _, rfl, ?_⟩
            refine ite2 (fun c2 => ?_) (fun c2 => ?_)
            · have i2 : i < 2 := by
                have z := of_decide_eq_true c2
                omega
              have len12 := l12 w2 i2
              refine ⟨_, rfl, D, _, rfl, gP SB.d, _, rfl, fe, cc, 12, m + 8, rfl, by decide, by decide, FB, by omega, fun HC rC rC0 rC1 bC FC => ?_⟩
              obtain ⟨_, _, _, hfB, _⟩ := id FB
              have tkC : TupK HB HC := TupK.but bC (by rw [hfB]; exact True.intro)
              have SC := SB.but bC nDf nLf nTf
              have KAC := KAB.but bC npf tkC
              obtain ⟨kC, rfl⟩ : ∃ kC : Nat, rC = (kC : Int) := ⟨rC.toNat, (Int.toNat_of_nonneg rC0).symm⟩
              have hk : kC < lps.length := by omega
              have hx : lps[kC]? = some lps[kC] := List.getElem?_eq_getElem hk
              have xin : lps[kC] ∈ ps := LN.pl.mem_iff.mp (List.getElem_mem hk)
              generalize lps[kC] = x at hx xin
              refine ⟨L, _, _, .str x, rfl, rfl, SqL.of SC.l, atI_nat (by rw [List.getElem?_map, hx]; rfl), ?_⟩
              refine ⟨_, rfl, _, rfl, (by show 4 ≤ sizeLine; decide), fun u1 n1 => ⟨_, rfl, _, rfl, (by show 3 ≤ sizeLine; decide), fun u2 n2 => ⟨(by show 2 ≤ sizeLine; decide), fun ll nll => ?_⟩⟩⟩
              have t1 := same_upd (o := .tup [.str "lay", .str x, .str x, .int 3]) n1
              have t2 := same_upd (o := .tup [.str "take", .str x, .str x]) n2
              have t3 := same_upd (o := .lst [.ref u1, .ref u2]) nll
              have t23 := t2.trans t3
              have t13 := t1.trans t23
              have xp := N.inPool x xin
              have i01 : i = 0 ∨ i = 1 := by omega
              rcases i01 with rfl | rfl
              · refine ⟨_, rfl, ll, _, _, .ref u1, rfl, rfl, SqL.of upd_same, rfl, ?_⟩
                exact join _ _ ⟨.lay x x 3, u1, m + 9, _, rfl, FC.same t13, by omega, KAC.same t13, SC.same t13, SqT.of (t23 _ _ upd_same), ⟨by decide, by decide⟩, ⟨xp, xp⟩, fun _ _ => tie_due_lay xin⟩
              · refine ⟨_, rfl, ll, _, _, .ref u2, rfl, rfl, SqL.of upd_same, rfl, ?_⟩
                exact join _ _ ⟨.take x x, u2, m + 9, _, rfl, FC.same t13, by omega, KAC.same t13, SC.same t13, SqT.of (t3 _ _ upd_same), True.intro, ⟨xp, xp⟩, fun _ _ => tie_due_take N xin⟩
            · exact join _ _ ⟨d, da, m + 8, _, rfl, FB, by omega, KAB, SB, SqT.of hda, fine, ip, fun _ z => absurd (decide_eq_true (by omega)) c2⟩
          · exact join _ _ ⟨d, da, m + 8, _, rfl, FB, by omega, KAB, SB, SqT.of hda, fine, ip, fun z _ => absurd (decide_eq_true (by rw [z])) c1⟩
        · rintro σ HC ⟨d, da, m', s8', rfl, FC, hm', KC, SC, hdC, fine, ip, tied⟩
          obtain ⟨dxC, _, _, _, hpC, _⟩ := id KC
          obtain ⟨_, _, _, _, _, _, _, _, subC, fewC⟩ := id KC
          have tellN : ∀ {ps : List Str} {ts ks : List Tie}, NetOk ps ts → (∀ x ∈ ks, x ∈ ts) → ks.length ≤ ts.length → Tells (.tuple [netD ps ts, netD ps ks]) 61713 := fun N s f => tells_two (tells_net N (fun _ h => h) (Nat.le_refl _)) (tells_net N s f)
          have depN : ∀ (ps : List Str) (ts ks : List Tie), (PyData.tuple [netD ps ts, netD ps ks]).depth ≤ 8 := fun ps ts ks => by
            have a := depth_net ps ts
            have b := depth_net ps ks
            have e : (PyData.tuple [netD ps ts, netD ps ks]).depth = max (netD ps ts).depth (netD ps ks).depth + 1 := by simp [PyData.depth, PyData.depthAll]
            omega
          have big : 61713 ≤ sizeLine := by decide
          have TN := tellN N subC fewC
          refine ⟨_, rfl, p, dxC, _, rfl, hpC, flds_no _ _ _ (by decide +kernel) (by decide +kernel) (by decide +kernel), p, ps, ts, ks, rfl, KC, fun v hv => ⟨_, rfl, p, dxC, _, rfl, hpC, flds_no _ _ _ (by decide +kernel) (by decide +kernel) (by decide +kernel), p, ps, ts, ks, rfl, KC, fun u2 hu2 => ⟨(by show 2 ≤ sizeLine; decide), fun q nq => ?_⟩⟩⟩
          have sD : Same HC (upd HC q (.tup [v, u2])) := same_upd nq
          refine ⟨q, .tuple [netD ps ts, netD ps ks], rfl, .tup (SqT.of upd_same) (.cons (Dp_same sD hv) (.cons (Dp_same sD hu2) .nil)), TN.sh, TN.nd, depN _ _ _, Nat.le_trans TN.len big, ?_⟩
          generalize upd HC q (.tup [v, u2]) = HD at sD
          refine ⟨_, rfl, _, rfl, D, L, T', da, lps, es, d, rfl, SC.same sD, seqT_same sD hdC, ip, lps24, es60, fun HE sE => gName_then ?_⟩
          have sCE := sD.trans sE
          have KE := KC.same sCE
          have SE := SC.same sCE
          have FE := FC.same sCE
          have hdE := seqT_same sCE hdC
          rw [due_perm LN d]
          dsimp only
          refine seqIf_join (fun σ' H' => ∃ (ps1 : List Str) (ts1 ks1 : List Tie), σ' = [some (.ref a), some (.ref fe), some t, some (.int wy), some (.ref p), some (.ref D), some (.int ((0 : Int) + (i : Int))), some (.ref da), s8', some (.str (PyData.shown (.tuple [netD ps ts, netD ps ks]))), some (.str (due ps ts d))] ∧
              FeedAt K cc H' fe m' ∧ KeepAt K C H' p ps1 ts1 ks1 ∧ StateAt H' D L T' lps es ∧ SqT K H' da (dvs d) ∧ ((due ps ts d = "ok" ∧ After ps ts d ps1 ts1 ∧ (d.word = "far" → ks1 = ks)) ∨ (due ps ts d ≠ "ok" ∧ ps1 = ps ∧ ts1 = ts ∧ ks1 = ks))) ?_ ?_
          rotate_left
          · intro nx join
            obtain ⟨dxE, _, _, _, hpE, _⟩ := id KE
            obtain ⟨_, _, _, hfE, hcE, _⟩ := id FE
            refine ⟨_, rfl, _, rfl, p, da, ps, ts, ks, d, rfl, KE, N, hdE, fine, fun isok HF ps' ts' ks' bF KF AF ff => ⟨_, rfl, rfl, _, rfl, ?_⟩, fun nok HF sF => ⟨_, rfl, rfl, _, rfl, ?_⟩⟩
            · refine iteNS (by rw [isok]) (join _ _ ⟨ps', ts', ks', rfl, FE.keep bF (Ne.symm npf) ncp, KF, SE.but bF nDp nLp nTp, (TupK.but bF (by rw [hpE]; exact True.intro)).seq hdE, .inl ⟨isok, AF, ff⟩⟩)
            · exact iteNS rfl (join _ _ ⟨ps, ts, ks, rfl, FE.same sF, KE.same sF, SE.same sF, seqT_same sF hdE, .inr ⟨nok, rfl, rfl, rfl⟩⟩)
          · rintro σ HF ⟨ps1, ts1, ks1, rfl, FF, KF, SF, hdF, alt⟩
            refine seqIf_join (fun σ' H' => ∃ (lps2 ps2 : List Str) (es2 ts2 ks2 : List Tie) (s6 s7 s8 s9 s10 : Option V), σ' = [some (.ref a), some (.ref fe), some t, some (.int wy), some (.ref p), some (.ref D), s6, s7, s8, s9, s10] ∧ FeedAt K cc H' fe m' ∧
                KeepAt K C H' p ps2 ts2 ks2 ∧ StateAt H' D L T' lps2 es2 ∧ NetOk ps2 ts2 ∧ LawNet ps2 ts2 lps2 es2 ∧ (wy = 2 → i + 1 < 2 → lps2.length = 12)) ?_ ?_
            rotate_left
            · intro nx join
              obtain ⟨dxF, _, _, _, hpF, _⟩ := id KF
              obtain ⟨_, _, _, _, _, _, _, _, subF, fewF⟩ := id KF
              obtain ⟨_, _, _, hfF, hcF, _⟩ := id FF
              rcases alt with ⟨isok, AF, ff⟩ | ⟨nok, e1, e2, e3⟩
              · refine ⟨_, rfl, rfl, _, rfl, ?_⟩
                refine ite2 (fun _ => ?_) (fun c => absurd (decide_eq_true (by rw [isok])) c)
                refine ⟨_, rfl, da, _, _, .str d.word, rfl, rfl, hdF, word_at d, rfl, _, rfl, ?_⟩
                by_cases hf : d.word = "far"
                · refine ite2 (fun c => absurd c (by rw [hf]; simp)) (fun _ => ?_)
                  have e1 : ps1 = ps ∧ ts1 = ts := by
                    cases d with
                    | far x y => exact AF
                    | come x => exact absurd hf (by show ¬ ("come" : Str) = "far"; decide +kernel)
                    | go x => exact absurd hf (by show ¬ ("go" : Str) = "far"; decide +kernel)
                    | lay x y n => exact absurd hf (by show ¬ ("lay" : Str) = "far"; decide +kernel)
                    | take x y => exact absurd hf (by show ¬ ("take" : Str) = "far"; decide +kernel)
                  have e2 := ff hf
                  have KF' : KeepAt K C HF p ps ts ks := by
                    have z := KF
                    rw [e1.1, e1.2, e2] at z
                    exact z
                  refine ⟨_, rfl, p, dxF, _, rfl, hpF, flds_no _ _ _ (by decide +kernel) (by decide +kernel) (by decide +kernel), p, ps, ts, ks, rfl, KF', fun v7 hv7 => ⟨_, rfl, p, dxF, _, rfl, hpF, flds_no _ _ _ (by decide +kernel) (by decide +kernel) (by decide +kernel), p, ps, ts, ks, rfl, KF', fun u7 hu7 => ⟨(by show 2 ≤ sizeLine; decide), fun q7 nq7 => ?_⟩⟩⟩
                  have s7' := same_upd (H := HF) (o := .tup [v7, u7]) nq7
                  refine ⟨q7, .tuple [netD ps ts, netD ps ks], rfl, .tup (SqT.of upd_same) (.cons (Dp_same s7' hv7) (.cons (Dp_same s7' hu7) .nil)), TN.sh, TN.nd, depN ps ts ks, Nat.le_trans TN.len big, ?_⟩
                  generalize PyData.shown (.tuple [netD ps ts, netD ps ks]) = text at join ⊢
                  refine ⟨_, rfl, rfl, _, rfl, ?_⟩
                  exact iteNS rfl (join _ _ ⟨lps, ps, es, ts, ks, _, _, _, _, _, rfl, FF.same s7', KF'.same s7', SF.same s7', N, LN, fun z1 z2 => l12 z1 (by omega)⟩)
                · refine ite2 (fun _ => ?_) (fun c => absurd (by
                    have nz : ¬ V.str d.word = V.str "far" := fun z => by
                      injection z with z
                      exact hf z
                    rw [decide_eq_false nz]
                    rfl) c)
                  have may := may_of LN isok hf
                  refine ⟨_, rfl, _, rfl, D, L, T', da, lps, es, d, rfl, SF, hdF, lps24, es60, LN.epnd N, may, fun HG lps' es' LA SG keep => ?_⟩
                  have N1 := after_ok N fine isok AF
                  have LN1 := law_after N LN AF LA
                  have b2 : But2 L T' HF HG := keep
                  have tkG := TupK.but22 b2 SF.l SF.t
                  have nLfe : fe ≠ L := Ne.symm nLf
                  have nTfe : fe ≠ T' := Ne.symm nTf
                  have KG : KeepAt K C HG p ps1 ts1 ks1 := by
                    obtain ⟨dx, t9, v9, u9, h1, h2, h3, h4, h5⟩ := KF
                    exact ⟨dx, t9, v9, u9, b2 _ _ h1 (Ne.symm nLp) (Ne.symm nTp), h2.same tkG, net_k tkG h3, net_k tkG h4, h5⟩
                  exact join _ _ ⟨lps', ps1, es', ts1, ks1, _, _, _, _, _, rfl, FF.but2 b2 nLfe nTfe ncL ncT, KG, SG, N1, LN1, fun z1 z2 => absurd ((tied z1 (by omega)).symm.trans isok) no_tie⟩
              · refine ⟨_, rfl, rfl, _, rfl, ?_⟩
                refine ite2 (fun c => absurd (by
                  have z := of_decide_eq_true c
                  injection z with z) nok) (fun _ => iteF ?_)
                have KF' : KeepAt K C HF p ps ts ks := by
                  have z := KF
                  rw [e1, e2, e3] at z
                  exact z
                refine ⟨_, rfl, p, dxF, _, rfl, hpF, flds_no _ _ _ (by decide +kernel) (by decide +kernel) (by decide +kernel), p, ps, ts, ks, rfl, KF', fun v7 hv7 => ⟨_, rfl, p, dxF, _, rfl, hpF, flds_no _ _ _ (by decide +kernel) (by decide +kernel) (by decide +kernel), p, ps, ts, ks, rfl, KF', fun u7 hu7 => ⟨(by show 2 ≤ sizeLine; decide), fun q7 nq7 => ?_⟩⟩⟩
                have s7' := same_upd (H := HF) (o := .tup [v7, u7]) nq7
                refine ⟨q7, .tuple [netD ps ts, netD ps ks], rfl, .tup (SqT.of upd_same) (.cons (Dp_same s7' hv7) (.cons (Dp_same s7' hu7) .nil)), TN.sh, TN.nd, depN ps ts ks, Nat.le_trans TN.len big, ?_⟩
                generalize PyData.shown (.tuple [netD ps ts, netD ps ks]) = text at join ⊢
                refine ⟨_, rfl, rfl, _, rfl, ?_⟩
                exact iteNS rfl (join _ _ ⟨lps, ps, es, ts, ks, _, _, _, _, _, rfl, FF.same s7', KF'.same s7', SF.same s7', N, LN, fun z1 z2 => l12 z1 (by omega)⟩)
            · rintro σ HG ⟨lps2, ps2, es2, ts2, ks2, s6', s7', s8'', s9', s10', rfl, FG, KG, SG, N2, LN2, l12'⟩
              obtain ⟨dxG, _, _, _, hpG, _⟩ := id KG
              have T2 : Tells (netD ps2 ts2) 30853 := tells_net N2 (fun _ h => h) (Nat.le_refl _)
              have d2 := depth_net ps2 ts2
              have big2 : 30853 ≤ sizeLine := by decide
              refine ⟨_, rfl, p, dxG, _, rfl, hpG, flds_no _ _ _ (by decide +kernel) (by decide +kernel) (by decide +kernel), p, ps2, ts2, ks2, rfl, KG, fun v9 hv9 => ?_⟩
              obtain ⟨n9, _, _, _, rfl, _⟩ := net_of hv9
              refine ⟨n9, netD ps2 ts2, rfl, hv9, T2.sh, T2.nd, by omega, Nat.le_trans T2.len big2, ?_⟩
              refine ⟨_, rfl, D, L, T', lps2, ps2, es2, ts2, rfl, SG, N2, LN2, fun HH v10 sH dv10 => ?_⟩
              obtain ⟨n10, _, _, _, rfl, _⟩ := net_of dv10
              refine ⟨n10, netD ps2 ts2, rfl, dv10, T2.sh, T2.nd, by omega, Nat.le_trans T2.len big2, rfl, _, rfl, ?_⟩
              exact iteNS rfl ⟨lps2, ps2, es2, ts2, ks2, m', _, _, _, _, _, rfl, FG.same sH, by omega, KG.same sH, SG.same sH, N2, LN2, l12'⟩
end
end L2.T
set_option maxHeartbeats 0
/-! The head: what the text's top leaves, by names. -/
namespace L2.T
open PySem PySem.Spec PyProof.Rows
def fn0 : List He.DefD := [⟨("is_name", none), "is_name", "is_name", defArgs (topS 12), defBody (topS 12), defScope (topS 12), [], []⟩,
  ⟨("rank", none), "rank", "rank", defArgs (topS 13), defBody (topS 13), defScope (topS 13), [], []⟩,
  ⟨("order_of", none), "order_of", "order_of", defArgs (topS 14), defBody (topS 14), defScope (topS 14), [], []⟩,
  ⟨("ties_at", none), "ties_at", "ties_at", defArgs (topS 15), defBody (topS 15), defScope (topS 15), [], []⟩,
  ⟨("only", none), "only", "only", defArgs (topS 16), defBody (topS 16), defScope (topS 16), [], []⟩,
  ⟨("length_of_word", none), "length_of_word", "length_of_word", defArgs (topS 23), defBody (topS 23), defScope (topS 23), [], []⟩,
  ⟨("place_fault", none), "place_fault", "place_fault", defArgs (topS 24), defBody (topS 24), defScope (topS 24), [], []⟩,
  ⟨("tie_fault", none), "tie_fault", "tie_fault", defArgs (topS 25), defBody (topS 25), defScope (topS 25), [], []⟩,
  ⟨("read_net", none), "read_net", "read_net", defArgs (topS 26), defBody (topS 26), defScope (topS 26), [], []⟩,
  ⟨("nearest", none), "nearest", "nearest", defArgs (topS 28), defBody (topS 28), defScope (topS 28), [], []⟩,
  ⟨("is_within", none), "is_within", "is_within", defArgs (topS 32), defBody (topS 32), defScope (topS 32), [], []⟩,
  ⟨("is_wanted", none), "is_wanted", "is_wanted", defArgs (topS 33), defBody (topS 33), defScope (topS 33), [], []⟩,
  ⟨("thinned", none), "thinned", "thinned", defArgs (topS 34), defBody (topS 34), defScope (topS 34), [], []⟩,
  ⟨("taken_up", none), "taken_up", "taken_up", defArgs (topS 37), defBody (topS 37), defScope (topS 37), [], []⟩,
  ⟨("_law_feed", none), "_law_feed", "_law_feed", defArgs (topS 39), defBody (topS 39), defScope (topS 39), [], []⟩,
  ⟨("_law_next", none), "_law_next", "_law_next", defArgs (topS 40), defBody (topS 40), defScope (topS 40), [], []⟩,
  ⟨("_law_names", none), "_law_names", "_law_names", defArgs (topS 41), defBody (topS 41), defScope (topS 41), [], []⟩,
  ⟨("_law_places", none), "_law_places", "_law_places", defArgs (topS 42), defBody (topS 42), defScope (topS 42), [], []⟩,
  ⟨("_law_times", none), "_law_times", "_law_times", defArgs (topS 43), defBody (topS 43), defScope (topS 43), [], []⟩,
  ⟨("_law_net_of", none), "_law_net_of", "_law_net_of", defArgs (topS 44), defBody (topS 44), defScope (topS 44), [], []⟩]
def fn1 : List He.DefD := [⟨("_law_pair", none), "_law_pair", "_law_pair", defArgs (topS 45), defBody (topS 45), defScope (topS 45), [], []⟩,
  ⟨("_law_do", none), "_law_do", "_law_do", defArgs (topS 46), defBody (topS 46), defScope (topS 46), [], []⟩,
  ⟨("_law_told", none), "_law_told", "_law_told", defArgs (topS 47), defBody (topS 47), defScope (topS 47), [], []⟩,
  ⟨("_law_sort", none), "_law_sort", "_law_sort", defArgs (topS 48), defBody (topS 48), defScope (topS 48), [], []⟩,
  ⟨("_law_tried", none), "_law_tried", "_law_tried", defArgs (topS 49), defBody (topS 49), defScope (topS 49), [], []⟩,
  ⟨("_law_due", none), "_law_due", "_law_due", defArgs (topS 50), defBody (topS 50), defScope (topS 50), [], []⟩,
  ⟨("_law_begun", none), "_law_begun", "_law_begun", defArgs (topS 51), defBody (topS 51), defScope (topS 51), [], []⟩,
  ⟨("_law_deed", none), "_law_deed", "_law_deed", defArgs (topS 52), defBody (topS 52), defScope (topS 52), [], []⟩,
  ⟨("law", none), "law", "law", defArgs (topS 53), defBody (topS 53), defScope (topS 53), [], []⟩,
  ⟨("far_ways", none), "far", "far", defArgs (topS 29), defBody (topS 29), defScope (topS 29), [], []⟩,
  ⟨("Keeper", some "__init__"), "__init__", "Keeper.__init__", defArgs (sKeep 0), defBody (sKeep 0), defScope (sKeep 0), [], []⟩,
  ⟨("Keeper", some "turn"), "turn", "Keeper.turn", defArgs (sKeep 1), defBody (sKeep 1), defScope (sKeep 1), [], []⟩,
  ⟨("Keeper", some "ask_places"), "ask_places", "Keeper.ask_places", defArgs (sKeep 2), defBody (sKeep 2), defScope (sKeep 2), [], []⟩,
  ⟨("Keeper", some "come"), "come", "Keeper.come", defArgs (sKeep 3), defBody (sKeep 3), defScope (sKeep 3), [], []⟩,
  ⟨("Keeper", some "go"), "go", "Keeper.go", defArgs (sKeep 4), defBody (sKeep 4), defScope (sKeep 4), [], []⟩,
  ⟨("Keeper", some "rest_of"), "rest_of", "Keeper.rest_of", defArgs (sKeep 5), defBody (sKeep 5), defScope (sKeep 5), [], []⟩,
  ⟨("Keeper", some "lay"), "lay", "Keeper.lay", defArgs (sKeep 6), defBody (sKeep 6), defScope (sKeep 6), [], []⟩,
  ⟨("Keeper", some "take"), "take", "Keeper.take", defArgs (sKeep 7), defBody (sKeep 7), defScope (sKeep 7), [], []⟩,
  ⟨("Keeper", some "net"), "net", "Keeper.net", defArgs (sKeep 8), defBody (sKeep 8), defScope (sKeep 8), [], []⟩,
  ⟨("Keeper", some "thin"), "thin", "Keeper.thin", defArgs (sKeep 9), defBody (sKeep 9), defScope (sKeep 9), [], []⟩]
def fn2 : List He.DefD := [⟨("Keeper", some "far"), "far", "Keeper.far", defArgs (sKeep 10), defBody (sKeep 10), defScope (sKeep 10), [], []⟩]
def fn : List He.DefD := fn0 ++ fn1 ++ fn2
def fa0 : List He.Fa := [.glo "is_name",
  .glo "rank",
  .glo "order_of",
  .glo "ties_at",
  .glo "only",
  .glo "length_of_word",
  .glo "place_fault",
  .glo "tie_fault",
  .glo "read_net",
  .glo "nearest",
  .glo "is_within",
  .glo "is_wanted",
  .glo "thinned",
  .glo "taken_up",
  .glo "_law_feed",
  .glo "_law_next",
  .glo "_law_names",
  .glo "_law_places",
  .glo "_law_times",
  .glo "_law_net_of"]
def fa1 : List He.Fa := [.glo "_law_pair",
  .glo "_law_do",
  .glo "_law_told",
  .glo "_law_sort",
  .glo "_law_tried",
  .glo "_law_due",
  .glo "_law_begun",
  .glo "_law_deed",
  .glo "law",
  .glo "far_ways",
  .glo "Keeper",
  .glo "ThinError",
  .glo "NoPaper",
  .glo "NoLine",
  .glo "NoRow",
  .glo "Twice",
  .glo "TooMany",
  .glo "NoPlace",
  .glo "NoTie",
  .free "len"]
def fa2 : List He.Fa := [.free "range",
  .free "sorted",
  .free "tuple",
  .free "list",
  .free "str",
  .free "int",
  .free "isinstance",
  .free "min",
  .free "max",
  .free "all",
  .free "repr",
  .free "ValueError",
  .int "LONGEST_NAME" 8,
  .int "MOST_PLACES" 24,
  .int "MOST_TIES" 60,
  .int "MOST_LENGTH" 1000000,
  .str "LETTERS" letters,
  .str "FIGURES" figures,
  .cls "Keeper",
  .noat "Keeper" "own_times"]
def fa3 : List He.Fa := [.noat "Keeper" "own_net",
  .noat "Keeper" "own_thin",
  .meth "Keeper" "turn",
  .meth "Keeper" "ask_places",
  .meth "Keeper" "come",
  .meth "Keeper" "go",
  .meth "Keeper" "rest_of",
  .meth "Keeper" "lay",
  .meth "Keeper" "take",
  .meth "Keeper" "net",
  .meth "Keeper" "thin",
  .meth "Keeper" "far",
  .mkr "Keeper",
  .exc "Twice",
  .exc "TooMany",
  .exc "NoPlace",
  .exc "NoTie",
  .exm "Twice" "ThinError" true,
  .exm "TooMany" "ThinError" true,
  .exm "NoPlace" "ThinError" true]
def fa4 : List He.Fa := [.exm "NoTie" "ThinError" true]
def fa : List He.Fa := fa0 ++ fa1 ++ fa2 ++ fa3 ++ fa4
def names1 : List PySem.Str := ["ThinError", "NoPaper", "NoLine", "TooMany", "Twice", "NoPlace", "NoTie", "NoRow", "LETTERS", "LONGEST_NAME", "is_name", "rank", "order_of", "ties_at", "only", "MOST_PLACES", "MOST_TIES", "MOST_LENGTH", "FIGURES", "shown", "length_of_word", "place_fault", "tie_fault", "read_net"]
def names2 : List PySem.Str := ["nearest", "far", "far_ways", "is_within", "is_wanted", "thinned", "Keeper", "taken_up", "_law_feed", "_law_next", "_law_names", "_law_places", "_law_times", "_law_net_of", "_law_pair", "_law_do", "_law_told", "_law_sort", "_law_tried", "_law_due", "_law_begun", "_law_deed"]
def names : List PySem.Str := names1 ++ names2
/-! how the errors stand to the classes, by the kernel's own look -/
open He (ga eqO)
/-- an error class as isinstance asks it -/
def excB (K : PySem.W.Frag) (D : Addr) : Bool := eqO (PySem.W.findIn K (.ref D) "__getattribute__") (some (some (.builtin "BaseException.__getattribute__"))) && (eqO (PySem.W.findIn K (.ref D) "__getattr__") (some none) && (decide (PySem.W.subIn K (.ref D) (.type "BaseException") = some true) &&
  (PySem.W.hasDictIn K D && (eqO (PySem.W.findIn K (.ref D) "__class__") (some (some (.builtin "object.__class__"))) && (eqO (PySem.W.specialIn K (.builtin "object.__class__") "__get__") (some (some (.builtin "getset_descriptor.__get__"))) &&
  (decide (PySem.W.takesIn K (.builtin "object.__class__") = some true) && decide (PySem.W.mroIn K D (.type "object") = some true)))))))
theorem excB_ok {K : PySem.W.Frag} {D : Addr} (h : excB K D = true) : ExcC K D := by
  obtain ⟨h1, h⟩ := He.ba h
  obtain ⟨h2, h⟩ := He.ba h
  obtain ⟨h3, h⟩ := He.ba h
  obtain ⟨h4, h⟩ := He.ba h
  obtain ⟨h5, h⟩ := He.ba h
  obtain ⟨h6, h⟩ := He.ba h
  obtain ⟨h7, h8⟩ := He.ba h
  exact ⟨He.eqO_ok h1, He.eqO_ok h2, of_decide_eq_true h3, h4, He.eqO_ok h5, He.eqO_ok h6, of_decide_eq_true h7, of_decide_eq_true h8⟩
def kitB (K : PySem.W.Frag) (x y : Str) (b : Bool) : Bool := decide (PySem.W.kitOne K (.ref (ga K x)) (.ref (ga K y)) = some b)
def kindB (K : PySem.W.Frag) (x : Str) (b1 b2 b3 b4 : Bool) : Bool := excB K (ga K x) && (kitB K x "Twice" b1 && (kitB K x "TooMany" b2 && (kitB K x "NoPlace" b3 && (kitB K x "NoTie" b4 && (kitB K x "NoLine" false && (kitB K x "NoPaper" false && (kitB K x "NoRow" false &&
  decide (PySem.W.kitOne K (.ref (ga K x)) (.type "ValueError") = some true))))))))
def ex (K : PySem.W.Frag) : Bool := kindB K "Twice" true false false false && (kindB K "TooMany" false true false false && (kindB K "NoPlace" false false true false && kindB K "NoTie" false false false true))
abbrev R : PySem.W.OpenRow := PySem.W.OpenLaw.row PySem.Challenge.rw_thinnet_k69_deeds_refused
abbrev qv : Program := PySem.W.view R.prog [53]
abbrev hk : PySem.W.Hook := He.hookX 5 fa fn [] [] ex
def ob (s : PySem.W.SharedT) : He.AlX := He.obsX 5 fa fn [] [] ex (HandSHeadRun.getT s)
theorem ob_eq (s : PySem.W.SharedT) : ob s = hk.obs s.abs := He.obsX_eq (HandSHeadRun.getT_eq s)
theorem run (w : World) : HandSHeadRun.RunEq R qv hk ob 4000 names w := by
  intro os
  kernel_rfl
end L2.T
set_option maxHeartbeats 0
/-! The end. -/
namespace L2.T
open PySem PySem.Spec PyProof.Rows
open He (ga eqO)
/-- the class of an error by its word -/
def erK (K : PySem.W.Frag) (w : Str) : Addr := if w = "twice" then ga K "Twice" else if w = "many" then ga K "TooMany" else if w = "place" then ga K "NoPlace" else ga K "NoTie"
section
variable {K : PySem.W.Frag}
theorem er_twice : erK K "twice" = ga K "Twice" := by
  unfold erK
  rw [if_pos rfl]
theorem er_many : erK K "many" = ga K "TooMany" := by
  unfold erK
  rw [if_neg (by decide +kernel), if_pos rfl]
theorem er_place : erK K "place" = ga K "NoPlace" := by
  unfold erK
  rw [if_neg (by decide +kernel), if_neg (by decide +kernel), if_pos rfl]
theorem er_tie : erK K "tie" = ga K "NoTie" := by
  unfold erK
  rw [if_neg (by decide +kernel), if_neg (by decide +kernel), if_neg (by decide +kernel)]
theorem kind_ok {x w : Str} {b1 b2 b3 b4 : Bool} (e : erK K w = ga K x) (h : kindB K x b1 b2 b3 b4 = true) : KindOf K (erK K) (ga K "NoLine") (ga K "NoPaper") (ga K "NoRow") w b1 b2 b3 b4 := by
  obtain ⟨h0, h⟩ := He.ba h
  obtain ⟨h1, h⟩ := He.ba h
  obtain ⟨h2, h⟩ := He.ba h
  obtain ⟨h3, h⟩ := He.ba h
  obtain ⟨h4, h⟩ := He.ba h
  obtain ⟨h5, h⟩ := He.ba h
  obtain ⟨h6, h⟩ := He.ba h
  obtain ⟨h7, h8⟩ := He.ba h
  refine ⟨?_, ?_, ?_, ?_, ?_, ?_, ?_, ?_, ?_⟩
  · rw [e]; exact excB_ok h0
  · rw [e, er_twice]; exact of_decide_eq_true h1
  · rw [e, er_many]; exact of_decide_eq_true h2
  · rw [e, er_place]; exact of_decide_eq_true h3
  · rw [e, er_tie]; exact of_decide_eq_true h4
  · rw [e]; exact of_decide_eq_true h5
  · rw [e]; exact of_decide_eq_true h6
  · rw [e]; exact of_decide_eq_true h7
  · rw [e]; exact of_decide_eq_true h8
end
/-- a law's end over a promise that leans on the guards -/
theorem walk_ofG {l : PySem.W.OpenLaw} {n k : Nat} {q : Program} {loose : List Str} {XP : (Str → Option Value) → Heap → Prop} {YP : World → Heap → Prop} {d : DefRec} {x : Str} (hn : l.most = some n) (hn2 : n ≤ sizeLine) (hdf : d.params.defaults = []) (hr : Room k callerA)
    (F : ∀ (w : World) (mg : Str → Option Value) (a : Addr) (h : Heap), YP w h → h.Ns mainGlobals mg → mg d.name = some (.ref a) → ∃ (K : PySem.W.Frag) (fd : FuncData) (sp : Sp), K.In h ∧ (∀ (s : Shared) (u : Value), BindsTo s fd ⟨[u], []⟩ [(x, u)]) ∧
      (∀ (H : Hp) (b : Addr) (ns : List Int), ns.length ≤ n → Only H → SqL K H b (ns.map V.int) → sp [.ref b] H (fun v _ => v = .bl true) E0) ∧ ∀ base : Heap, K.In base → base.Ns mainGlobals mg → FnG l.prog w K mg base k a fd [x] sp) :
    PySem.W.WalkO q loose XP YP l.row.toRowW d [] (fun f vs => PySem.call f vs) := by
  refine Att.attach_call hn hdf fun w s₀ s₁ mg mb fa o pm cd doc a vs ns G Y ho hd hcd hmg hobj hints hlen hg => ?_
  obtain ⟨K, fd, sp, KX, hb, hsp, hF⟩ := F w mg fa _ Y G.T.g hmg
  exact law_callG KX G.T.g G.T.b G.T.builtins G.T.nolimit hg hobj hints (Nat.le_trans hlen hn2) hr hF hb fun H hO hS => hsp H a ns hlen hO hS
theorem facts {P : Program} {w : World} {K : PySem.W.Frag} {h : Heap} {mg : Str → Option Value} {f : Addr} (X : K.In h) (G : h.Ns mainGlobals mg) (hfa : mg ("law" : Str) = some (.ref f)) (c : He.SaysD fa fn K) (hex : ex K = true) :
    ∃ fd : FuncData, (∀ (s : Shared) (v : Value), BindsTo s fd ⟨[v], []⟩ [("_law_script", v)]) ∧ ∀ base : Heap, K.In base → base.Ns mainGlobals mg → FnG P w K mg base 10 f fd ["_law_script"] (spLaw K) := by
  obtain ⟨fd0, D0⟩ := c.def_ 0 (d := ⟨("is_name", none), "is_name", "is_name", defArgs (topS 12), defBody (topS 12), defScope (topS 12), [], []⟩) (by rfl)
  have F0 : Fun K "is_name" "is_name" (topS 12) (He.fAd K ("is_name", none)) fd0 := He5.fun_of D0
  have A_is_name : At K mg "is_name" "is_name" (topS 12) (He.fAd K ("is_name", none)) fd0 := ⟨F0, He.glo_ok X G (c.fact 0 (f := .glo "is_name") (by rfl))⟩
  have b_is_name : Binds K fd0 ["thing"] [] := F0.binds (ps := ["thing"]) fun _ _ _ _ _ _ us hl => match us, hl with | [_], _ => rfl
  obtain ⟨fd1, D1⟩ := c.def_ 1 (d := ⟨("rank", none), "rank", "rank", defArgs (topS 13), defBody (topS 13), defScope (topS 13), [], []⟩) (by rfl)
  have F1 : Fun K "rank" "rank" (topS 13) (He.fAd K ("rank", none)) fd1 := He5.fun_of D1
  have A_rank : At K mg "rank" "rank" (topS 13) (He.fAd K ("rank", none)) fd1 := ⟨F1, He.glo_ok X G (c.fact 1 (f := .glo "rank") (by rfl))⟩
  have b_rank : Binds K fd1 ["tie"] [] := F1.binds (ps := ["tie"]) fun _ _ _ _ _ _ us hl => match us, hl with | [_], _ => rfl
  obtain ⟨fd2, D2⟩ := c.def_ 2 (d := ⟨("order_of", none), "order_of", "order_of", defArgs (topS 14), defBody (topS 14), defScope (topS 14), [], []⟩) (by rfl)
  have F2 : Fun K "order_of" "order_of" (topS 14) (He.fAd K ("order_of", none)) fd2 := He5.fun_of D2
  have A_order_of : At K mg "order_of" "order_of" (topS 14) (He.fAd K ("order_of", none)) fd2 := ⟨F2, He.glo_ok X G (c.fact 2 (f := .glo "order_of") (by rfl))⟩
  have b_order_of : Binds K fd2 ["ties"] [] := F2.binds (ps := ["ties"]) fun _ _ _ _ _ _ us hl => match us, hl with | [_], _ => rfl
  obtain ⟨fd3, D3⟩ := c.def_ 3 (d := ⟨("ties_at", none), "ties_at", "ties_at", defArgs (topS 15), defBody (topS 15), defScope (topS 15), [], []⟩) (by rfl)
  have F3 : Fun K "ties_at" "ties_at" (topS 15) (He.fAd K ("ties_at", none)) fd3 := He5.fun_of D3
  have A_ties_at : At K mg "ties_at" "ties_at" (topS 15) (He.fAd K ("ties_at", none)) fd3 := ⟨F3, He.glo_ok X G (c.fact 3 (f := .glo "ties_at") (by rfl))⟩
  have b_ties_at : Binds K fd3 ["net", "place"] [] := F3.binds (ps := ["net", "place"]) fun _ _ _ _ _ _ us hl => match us, hl with | [_, _], _ => rfl
  obtain ⟨fd4, D4⟩ := c.def_ 4 (d := ⟨("only", none), "only", "only", defArgs (topS 16), defBody (topS 16), defScope (topS 16), [], []⟩) (by rfl)
  have F4 : Fun K "only" "only" (topS 16) (He.fAd K ("only", none)) fd4 := He5.fun_of D4
  have A_only : At K mg "only" "only" (topS 16) (He.fAd K ("only", none)) fd4 := ⟨F4, He.glo_ok X G (c.fact 4 (f := .glo "only") (by rfl))⟩
  have b_only : Binds K fd4 ["net", "ties"] [] := F4.binds (ps := ["net", "ties"]) fun _ _ _ _ _ _ us hl => match us, hl with | [_, _], _ => rfl
  obtain ⟨fd5, D5⟩ := c.def_ 5 (d := ⟨("length_of_word", none), "length_of_word", "length_of_word", defArgs (topS 23), defBody (topS 23), defScope (topS 23), [], []⟩) (by rfl)
  have F5 : Fun K "length_of_word" "length_of_word" (topS 23) (He.fAd K ("length_of_word", none)) fd5 := He5.fun_of D5
  have A_length_of_word : At K mg "length_of_word" "length_of_word" (topS 23) (He.fAd K ("length_of_word", none)) fd5 := ⟨F5, He.glo_ok X G (c.fact 5 (f := .glo "length_of_word") (by rfl))⟩
  have b_length_of_word : Binds K fd5 ["word"] [] := F5.binds (ps := ["word"]) fun _ _ _ _ _ _ us hl => match us, hl with | [_], _ => rfl
  obtain ⟨fd6, D6⟩ := c.def_ 6 (d := ⟨("place_fault", none), "place_fault", "place_fault", defArgs (topS 24), defBody (topS 24), defScope (topS 24), [], []⟩) (by rfl)
  have F6 : Fun K "place_fault" "place_fault" (topS 24) (He.fAd K ("place_fault", none)) fd6 := He5.fun_of D6
  have A_place_fault : At K mg "place_fault" "place_fault" (topS 24) (He.fAd K ("place_fault", none)) fd6 := ⟨F6, He.glo_ok X G (c.fact 6 (f := .glo "place_fault") (by rfl))⟩
  have b_place_fault : Binds K fd6 ["words", "places", "ties"] [] := F6.binds (ps := ["words", "places", "ties"]) fun _ _ _ _ _ _ us hl => match us, hl with | [_, _, _], _ => rfl
  obtain ⟨fd7, D7⟩ := c.def_ 7 (d := ⟨("tie_fault", none), "tie_fault", "tie_fault", defArgs (topS 25), defBody (topS 25), defScope (topS 25), [], []⟩) (by rfl)
  have F7 : Fun K "tie_fault" "tie_fault" (topS 25) (He.fAd K ("tie_fault", none)) fd7 := He5.fun_of D7
  have A_tie_fault : At K mg "tie_fault" "tie_fault" (topS 25) (He.fAd K ("tie_fault", none)) fd7 := ⟨F7, He.glo_ok X G (c.fact 7 (f := .glo "tie_fault") (by rfl))⟩
  have b_tie_fault : Binds K fd7 ["words", "places", "ties"] [] := F7.binds (ps := ["words", "places", "ties"]) fun _ _ _ _ _ _ us hl => match us, hl with | [_, _, _], _ => rfl
  obtain ⟨fd8, D8⟩ := c.def_ 8 (d := ⟨("read_net", none), "read_net", "read_net", defArgs (topS 26), defBody (topS 26), defScope (topS 26), [], []⟩) (by rfl)
  have F8 : Fun K "read_net" "read_net" (topS 26) (He.fAd K ("read_net", none)) fd8 := He5.fun_of D8
  have A_read_net : At K mg "read_net" "read_net" (topS 26) (He.fAd K ("read_net", none)) fd8 := ⟨F8, He.glo_ok X G (c.fact 8 (f := .glo "read_net") (by rfl))⟩
  have b_read_net : Binds K fd8 ["lines"] [] := F8.binds (ps := ["lines"]) fun _ _ _ _ _ _ us hl => match us, hl with | [_], _ => rfl
  obtain ⟨fd9, D9⟩ := c.def_ 9 (d := ⟨("nearest", none), "nearest", "nearest", defArgs (topS 28), defBody (topS 28), defScope (topS 28), [], []⟩) (by rfl)
  have F9 : Fun K "nearest" "nearest" (topS 28) (He.fAd K ("nearest", none)) fd9 := He5.fun_of D9
  have A_nearest : At K mg "nearest" "nearest" (topS 28) (He.fAd K ("nearest", none)) fd9 := ⟨F9, He.glo_ok X G (c.fact 9 (f := .glo "nearest") (by rfl))⟩
  have b_nearest : Binds K fd9 ["net", "place"] [] := F9.binds (ps := ["net", "place"]) fun _ _ _ _ _ _ us hl => match us, hl with | [_, _], _ => rfl
  obtain ⟨fd10, D10⟩ := c.def_ 10 (d := ⟨("is_within", none), "is_within", "is_within", defArgs (topS 32), defBody (topS 32), defScope (topS 32), [], []⟩) (by rfl)
  have F10 : Fun K "is_within" "is_within" (topS 32) (He.fAd K ("is_within", none)) fd10 := He5.fun_of D10
  have A_is_within : At K mg "is_within" "is_within" (topS 32) (He.fAd K ("is_within", none)) fd10 := ⟨F10, He.glo_ok X G (c.fact 10 (f := .glo "is_within") (by rfl))⟩
  have b_is_within : Binds K fd10 ["length", "times", "number"] [] := F10.binds (ps := ["length", "times", "number"]) fun _ _ _ _ _ _ us hl => match us, hl with | [_, _, _], _ => rfl
  obtain ⟨fd11, D11⟩ := c.def_ 11 (d := ⟨("is_wanted", none), "is_wanted", "is_wanted", defArgs (topS 33), defBody (topS 33), defScope (topS 33), [], []⟩) (by rfl)
  have F11 : Fun K "is_wanted" "is_wanted" (topS 33) (He.fAd K ("is_wanted", none)) fd11 := He5.fun_of D11
  have A_is_wanted : At K mg "is_wanted" "is_wanted" (topS 33) (He.fAd K ("is_wanted", none)) fd11 := ⟨F11, He.glo_ok X G (c.fact 11 (f := .glo "is_wanted") (by rfl))⟩
  have b_is_wanted : Binds K fd11 ["net", "times", "kept", "tie"] [] := F11.binds (ps := ["net", "times", "kept", "tie"]) fun _ _ _ _ _ _ us hl => match us, hl with | [_, _, _, _], _ => rfl
  obtain ⟨fd12, D12⟩ := c.def_ 12 (d := ⟨("thinned", none), "thinned", "thinned", defArgs (topS 34), defBody (topS 34), defScope (topS 34), [], []⟩) (by rfl)
  have F12 : Fun K "thinned" "thinned" (topS 34) (He.fAd K ("thinned", none)) fd12 := He5.fun_of D12
  have A_thinned : At K mg "thinned" "thinned" (topS 34) (He.fAd K ("thinned", none)) fd12 := ⟨F12, He.glo_ok X G (c.fact 12 (f := .glo "thinned") (by rfl))⟩
  have b_thinned : Binds K fd12 ["net", "times"] [] := F12.binds (ps := ["net", "times"]) fun _ _ _ _ _ _ us hl => match us, hl with | [_, _], _ => rfl
  obtain ⟨fd13, D13⟩ := c.def_ 13 (d := ⟨("taken_up", none), "taken_up", "taken_up", defArgs (topS 37), defBody (topS 37), defScope (topS 37), [], []⟩) (by rfl)
  have F13 : Fun K "taken_up" "taken_up" (topS 37) (He.fAd K ("taken_up", none)) fd13 := He5.fun_of D13
  have A_taken_up : At K mg "taken_up" "taken_up" (topS 37) (He.fAd K ("taken_up", none)) fd13 := ⟨F13, He.glo_ok X G (c.fact 13 (f := .glo "taken_up") (by rfl))⟩
  have b_taken_up : Binds K fd13 ["lines", "times"] [] := F13.binds (ps := ["lines", "times"]) fun _ _ _ _ _ _ us hl => match us, hl with | [_, _], _ => rfl
  obtain ⟨fd14, D14⟩ := c.def_ 14 (d := ⟨("_law_feed", none), "_law_feed", "_law_feed", defArgs (topS 39), defBody (topS 39), defScope (topS 39), [], []⟩) (by rfl)
  have F14 : Fun K "_law_feed" "_law_feed" (topS 39) (He.fAd K ("_law_feed", none)) fd14 := He5.fun_of D14
  have A__law_feed : At K mg "_law_feed" "_law_feed" (topS 39) (He.fAd K ("_law_feed", none)) fd14 := ⟨F14, He.glo_ok X G (c.fact 14 (f := .glo "_law_feed") (by rfl))⟩
  have b__law_feed : Binds K fd14 ["_law_script"] [] := F14.binds (ps := ["_law_script"]) fun _ _ _ _ _ _ us hl => match us, hl with | [_], _ => rfl
  obtain ⟨fd15, D15⟩ := c.def_ 15 (d := ⟨("_law_next", none), "_law_next", "_law_next", defArgs (topS 40), defBody (topS 40), defScope (topS 40), [], []⟩) (by rfl)
  have F15 : Fun K "_law_next" "_law_next" (topS 40) (He.fAd K ("_law_next", none)) fd15 := He5.fun_of D15
  have A__law_next : At K mg "_law_next" "_law_next" (topS 40) (He.fAd K ("_law_next", none)) fd15 := ⟨F15, He.glo_ok X G (c.fact 15 (f := .glo "_law_next") (by rfl))⟩
  have b__law_next : Binds K fd15 ["_law_feed_here", "_law_many"] [] := F15.binds (ps := ["_law_feed_here", "_law_many"]) fun _ _ _ _ _ _ us hl => match us, hl with | [_, _], _ => rfl
  obtain ⟨fd16, D16⟩ := c.def_ 16 (d := ⟨("_law_names", none), "_law_names", "_law_names", defArgs (topS 41), defBody (topS 41), defScope (topS 41), [], []⟩) (by rfl)
  have F16 : Fun K "_law_names" "_law_names" (topS 41) (He.fAd K ("_law_names", none)) fd16 := He5.fun_of D16
  have A__law_names : At K mg "_law_names" "_law_names" (topS 41) (He.fAd K ("_law_names", none)) fd16 := ⟨F16, He.glo_ok X G (c.fact 16 (f := .glo "_law_names") (by rfl))⟩
  have b__law_names : Binds K fd16 [] [] := F16.binds (ps := []) fun _ _ _ _ _ _ us hl => match us, hl with | [], _ => rfl
  obtain ⟨fd17, D17⟩ := c.def_ 17 (d := ⟨("_law_places", none), "_law_places", "_law_places", defArgs (topS 42), defBody (topS 42), defScope (topS 42), [], []⟩) (by rfl)
  have F17 : Fun K "_law_places" "_law_places" (topS 42) (He.fAd K ("_law_places", none)) fd17 := He5.fun_of D17
  have A__law_places : At K mg "_law_places" "_law_places" (topS 42) (He.fAd K ("_law_places", none)) fd17 := ⟨F17, He.glo_ok X G (c.fact 17 (f := .glo "_law_places") (by rfl))⟩
  have b__law_places : Binds K fd17 ["_law_feed_here", "_law_many"] [] := F17.binds (ps := ["_law_feed_here", "_law_many"]) fun _ _ _ _ _ _ us hl => match us, hl with | [_, _], _ => rfl
  obtain ⟨fd18, D18⟩ := c.def_ 18 (d := ⟨("_law_times", none), "_law_times", "_law_times", defArgs (topS 43), defBody (topS 43), defScope (topS 43), [], []⟩) (by rfl)
  have F18 : Fun K "_law_times" "_law_times" (topS 43) (He.fAd K ("_law_times", none)) fd18 := He5.fun_of D18
  have A__law_times : At K mg "_law_times" "_law_times" (topS 43) (He.fAd K ("_law_times", none)) fd18 := ⟨F18, He.glo_ok X G (c.fact 18 (f := .glo "_law_times") (by rfl))⟩
  have b__law_times : Binds K fd18 ["_law_feed_here"] [] := F18.binds (ps := ["_law_feed_here"]) fun _ _ _ _ _ _ us hl => match us, hl with | [_], _ => rfl
  obtain ⟨fd19, D19⟩ := c.def_ 19 (d := ⟨("_law_net_of", none), "_law_net_of", "_law_net_of", defArgs (topS 44), defBody (topS 44), defScope (topS 44), [], []⟩) (by rfl)
  have F19 : Fun K "_law_net_of" "_law_net_of" (topS 44) (He.fAd K ("_law_net_of", none)) fd19 := He5.fun_of D19
  have A__law_net_of : At K mg "_law_net_of" "_law_net_of" (topS 44) (He.fAd K ("_law_net_of", none)) fd19 := ⟨F19, He.glo_ok X G (c.fact 19 (f := .glo "_law_net_of") (by rfl))⟩
  have b__law_net_of : Binds K fd19 ["_law_state"] [] := F19.binds (ps := ["_law_state"]) fun _ _ _ _ _ _ us hl => match us, hl with | [_], _ => rfl
  obtain ⟨fd20, D20⟩ := c.def_ 20 (d := ⟨("_law_pair", none), "_law_pair", "_law_pair", defArgs (topS 45), defBody (topS 45), defScope (topS 45), [], []⟩) (by rfl)
  have F20 : Fun K "_law_pair" "_law_pair" (topS 45) (He.fAd K ("_law_pair", none)) fd20 := He5.fun_of D20
  have A__law_pair : At K mg "_law_pair" "_law_pair" (topS 45) (He.fAd K ("_law_pair", none)) fd20 := ⟨F20, He.glo_ok X G (c.fact 20 (f := .glo "_law_pair") (by rfl))⟩
  have b__law_pair : Binds K fd20 ["_law_a", "_law_b"] [] := F20.binds (ps := ["_law_a", "_law_b"]) fun _ _ _ _ _ _ us hl => match us, hl with | [_, _], _ => rfl
  obtain ⟨fd21, D21⟩ := c.def_ 21 (d := ⟨("_law_do", none), "_law_do", "_law_do", defArgs (topS 46), defBody (topS 46), defScope (topS 46), [], []⟩) (by rfl)
  have F21 : Fun K "_law_do" "_law_do" (topS 46) (He.fAd K ("_law_do", none)) fd21 := He5.fun_of D21
  have A__law_do : At K mg "_law_do" "_law_do" (topS 46) (He.fAd K ("_law_do", none)) fd21 := ⟨F21, He.glo_ok X G (c.fact 21 (f := .glo "_law_do") (by rfl))⟩
  have b__law_do : Binds K fd21 ["_law_state", "_law_deed_here"] [] := F21.binds (ps := ["_law_state", "_law_deed_here"]) fun _ _ _ _ _ _ us hl => match us, hl with | [_, _], _ => rfl
  obtain ⟨fd22, D22⟩ := c.def_ 22 (d := ⟨("_law_told", none), "_law_told", "_law_told", defArgs (topS 47), defBody (topS 47), defScope (topS 47), [], []⟩) (by rfl)
  have F22 : Fun K "_law_told" "_law_told" (topS 47) (He.fAd K ("_law_told", none)) fd22 := He5.fun_of D22
  have A__law_told : At K mg "_law_told" "_law_told" (topS 47) (He.fAd K ("_law_told", none)) fd22 := ⟨F22, He.glo_ok X G (c.fact 22 (f := .glo "_law_told") (by rfl))⟩
  have b__law_told : Binds K fd22 ["_law_keeper", "_law_deed_here"] [] := F22.binds (ps := ["_law_keeper", "_law_deed_here"]) fun _ _ _ _ _ _ us hl => match us, hl with | [_, _], _ => rfl
  obtain ⟨fd23, D23⟩ := c.def_ 23 (d := ⟨("_law_sort", none), "_law_sort", "_law_sort", defArgs (topS 48), defBody (topS 48), defScope (topS 48), [], []⟩) (by rfl)
  have F23 : Fun K "_law_sort" "_law_sort" (topS 48) (He.fAd K ("_law_sort", none)) fd23 := He5.fun_of D23
  have A__law_sort : At K mg "_law_sort" "_law_sort" (topS 48) (He.fAd K ("_law_sort", none)) fd23 := ⟨F23, He.glo_ok X G (c.fact 23 (f := .glo "_law_sort") (by rfl))⟩
  have b__law_sort : Binds K fd23 ["_law_caught"] [] := F23.binds (ps := ["_law_caught"]) fun _ _ _ _ _ _ us hl => match us, hl with | [_], _ => rfl
  obtain ⟨fd24, D24⟩ := c.def_ 24 (d := ⟨("_law_tried", none), "_law_tried", "_law_tried", defArgs (topS 49), defBody (topS 49), defScope (topS 49), [], []⟩) (by rfl)
  have F24 : Fun K "_law_tried" "_law_tried" (topS 49) (He.fAd K ("_law_tried", none)) fd24 := He5.fun_of D24
  have A__law_tried : At K mg "_law_tried" "_law_tried" (topS 49) (He.fAd K ("_law_tried", none)) fd24 := ⟨F24, He.glo_ok X G (c.fact 24 (f := .glo "_law_tried") (by rfl))⟩
  have b__law_tried : Binds K fd24 ["_law_keeper", "_law_deed_here"] [] := F24.binds (ps := ["_law_keeper", "_law_deed_here"]) fun _ _ _ _ _ _ us hl => match us, hl with | [_, _], _ => rfl
  obtain ⟨fd25, D25⟩ := c.def_ 25 (d := ⟨("_law_due", none), "_law_due", "_law_due", defArgs (topS 50), defBody (topS 50), defScope (topS 50), [], []⟩) (by rfl)
  have F25 : Fun K "_law_due" "_law_due" (topS 50) (He.fAd K ("_law_due", none)) fd25 := He5.fun_of D25
  have A__law_due : At K mg "_law_due" "_law_due" (topS 50) (He.fAd K ("_law_due", none)) fd25 := ⟨F25, He.glo_ok X G (c.fact 25 (f := .glo "_law_due") (by rfl))⟩
  have b__law_due : Binds K fd25 ["_law_state", "_law_deed_here"] [] := F25.binds (ps := ["_law_state", "_law_deed_here"]) fun _ _ _ _ _ _ us hl => match us, hl with | [_, _], _ => rfl
  obtain ⟨fd26, D26⟩ := c.def_ 26 (d := ⟨("_law_begun", none), "_law_begun", "_law_begun", defArgs (topS 51), defBody (topS 51), defScope (topS 51), [], []⟩) (by rfl)
  have F26 : Fun K "_law_begun" "_law_begun" (topS 51) (He.fAd K ("_law_begun", none)) fd26 := He5.fun_of D26
  have A__law_begun : At K mg "_law_begun" "_law_begun" (topS 51) (He.fAd K ("_law_begun", none)) fd26 := ⟨F26, He.glo_ok X G (c.fact 26 (f := .glo "_law_begun") (by rfl))⟩
  have b__law_begun : Binds K fd26 ["_law_feed_here", "_law_times_here", "_law_way"] [] := F26.binds (ps := ["_law_feed_here", "_law_times_here", "_law_way"]) fun _ _ _ _ _ _ us hl => match us, hl with | [_, _, _], _ => rfl
  obtain ⟨fd27, D27⟩ := c.def_ 27 (d := ⟨("_law_deed", none), "_law_deed", "_law_deed", defArgs (topS 52), defBody (topS 52), defScope (topS 52), [], []⟩) (by rfl)
  have F27 : Fun K "_law_deed" "_law_deed" (topS 52) (He.fAd K ("_law_deed", none)) fd27 := He5.fun_of D27
  have A__law_deed : At K mg "_law_deed" "_law_deed" (topS 52) (He.fAd K ("_law_deed", none)) fd27 := ⟨F27, He.glo_ok X G (c.fact 27 (f := .glo "_law_deed") (by rfl))⟩
  have b__law_deed : Binds K fd27 ["_law_feed_here", "_law_state", "_law_pool"] [] := F27.binds (ps := ["_law_feed_here", "_law_state", "_law_pool"]) fun _ _ _ _ _ _ us hl => match us, hl with | [_, _, _], _ => rfl
  obtain ⟨fd28, D28⟩ := c.def_ 28 (d := ⟨("law", none), "law", "law", defArgs (topS 53), defBody (topS 53), defScope (topS 53), [], []⟩) (by rfl)
  have F28 : Fun K "law" "law" (topS 53) (He.fAd K ("law", none)) fd28 := He5.fun_of D28
  have A_law : At K mg "law" "law" (topS 53) (He.fAd K ("law", none)) fd28 := ⟨F28, He.glo_ok X G (c.fact 28 (f := .glo "law") (by rfl))⟩
  have b_law : Binds K fd28 ["_law_script"] [] := F28.binds (ps := ["_law_script"]) fun _ _ _ _ _ _ us hl => match us, hl with | [_], _ => rfl
  obtain ⟨fd29, D29⟩ := c.def_ 29 (d := ⟨("far_ways", none), "far", "far", defArgs (topS 29), defBody (topS 29), defScope (topS 29), [], []⟩) (by rfl)
  have F29 : Fun K "far" "far" (topS 29) (He.fAd K ("far_ways", none)) fd29 := He5.fun_of D29
  have A_far : At K mg "far_ways" "far" (topS 29) (He.fAd K ("far_ways", none)) fd29 := ⟨F29, He.glo_ok X G (c.fact 29 (f := .glo "far_ways") (by rfl))⟩
  have b_far : Binds K fd29 ["net", "a", "b"] [] := F29.binds (ps := ["net", "a", "b"]) fun _ _ _ _ _ _ us hl => match us, hl with | [_, _, _], _ => rfl
  obtain ⟨fd30, D30⟩ := c.def_ 30 (d := ⟨("Keeper", some "__init__"), "__init__", "Keeper.__init__", defArgs (sKeep 0), defBody (sKeep 0), defScope (sKeep 0), [], []⟩) (by rfl)
  have F30 : Fun K "__init__" "Keeper.__init__" (sKeep 0) (He.fAd K ("Keeper", some "__init__")) fd30 := He5.fun_of D30
  have F_init := F30
  have bm_init : Binds K fd30 ["self", "times"] [] := F30.binds (ps := ["self", "times"]) fun _ _ _ _ _ _ us hl => match us, hl with | [_, _], _ => rfl
  obtain ⟨fd31, D31⟩ := c.def_ 31 (d := ⟨("Keeper", some "turn"), "turn", "Keeper.turn", defArgs (sKeep 1), defBody (sKeep 1), defScope (sKeep 1), [], []⟩) (by rfl)
  have F31 : Fun K "turn" "Keeper.turn" (sKeep 1) (He.fAd K ("Keeper", some "turn")) fd31 := He5.fun_of D31
  have M_turn : Me K (ga K "Keeper") "turn" "Keeper.turn" (sKeep 1) (He.fAd K ("Keeper", some "turn")) fd31 := ⟨F31, He.meth_ok (c.fact 62 (f := .meth "Keeper" "turn") (by rfl))⟩
  have bm_turn : Binds K fd31 ["self", "net"] [] := F31.binds (ps := ["self", "net"]) fun _ _ _ _ _ _ us hl => match us, hl with | [_, _], _ => rfl
  obtain ⟨fd32, D32⟩ := c.def_ 32 (d := ⟨("Keeper", some "ask_places"), "ask_places", "Keeper.ask_places", defArgs (sKeep 2), defBody (sKeep 2), defScope (sKeep 2), [], []⟩) (by rfl)
  have F32 : Fun K "ask_places" "Keeper.ask_places" (sKeep 2) (He.fAd K ("Keeper", some "ask_places")) fd32 := He5.fun_of D32
  have M_ask_places : Me K (ga K "Keeper") "ask_places" "Keeper.ask_places" (sKeep 2) (He.fAd K ("Keeper", some "ask_places")) fd32 := ⟨F32, He.meth_ok (c.fact 63 (f := .meth "Keeper" "ask_places") (by rfl))⟩
  have bm_ask_places : Binds K fd32 ["self", "names"] [] := F32.binds (ps := ["self", "names"]) fun _ _ _ _ _ _ us hl => match us, hl with | [_, _], _ => rfl
  obtain ⟨fd33, D33⟩ := c.def_ 33 (d := ⟨("Keeper", some "come"), "come", "Keeper.come", defArgs (sKeep 3), defBody (sKeep 3), defScope (sKeep 3), [], []⟩) (by rfl)
  have F33 : Fun K "come" "Keeper.come" (sKeep 3) (He.fAd K ("Keeper", some "come")) fd33 := He5.fun_of D33
  have M_come : Me K (ga K "Keeper") "come" "Keeper.come" (sKeep 3) (He.fAd K ("Keeper", some "come")) fd33 := ⟨F33, He.meth_ok (c.fact 64 (f := .meth "Keeper" "come") (by rfl))⟩
  have bm_come : Binds K fd33 ["self", "name"] [] := F33.binds (ps := ["self", "name"]) fun _ _ _ _ _ _ us hl => match us, hl with | [_, _], _ => rfl
  obtain ⟨fd34, D34⟩ := c.def_ 34 (d := ⟨("Keeper", some "go"), "go", "Keeper.go", defArgs (sKeep 4), defBody (sKeep 4), defScope (sKeep 4), [], []⟩) (by rfl)
  have F34 : Fun K "go" "Keeper.go" (sKeep 4) (He.fAd K ("Keeper", some "go")) fd34 := He5.fun_of D34
  have M_go : Me K (ga K "Keeper") "go" "Keeper.go" (sKeep 4) (He.fAd K ("Keeper", some "go")) fd34 := ⟨F34, He.meth_ok (c.fact 65 (f := .meth "Keeper" "go") (by rfl))⟩
  have bm_go : Binds K fd34 ["self", "name"] [] := F34.binds (ps := ["self", "name"]) fun _ _ _ _ _ _ us hl => match us, hl with | [_, _], _ => rfl
  obtain ⟨fd35, D35⟩ := c.def_ 35 (d := ⟨("Keeper", some "rest_of"), "rest_of", "Keeper.rest_of", defArgs (sKeep 5), defBody (sKeep 5), defScope (sKeep 5), [], []⟩) (by rfl)
  have F35 : Fun K "rest_of" "Keeper.rest_of" (sKeep 5) (He.fAd K ("Keeper", some "rest_of")) fd35 := He5.fun_of D35
  have M_rest_of : Me K (ga K "Keeper") "rest_of" "Keeper.rest_of" (sKeep 5) (He.fAd K ("Keeper", some "rest_of")) fd35 := ⟨F35, He.meth_ok (c.fact 66 (f := .meth "Keeper" "rest_of") (by rfl))⟩
  have bm_rest_of : Binds K fd35 ["self", "a", "b"] [] := F35.binds (ps := ["self", "a", "b"]) fun _ _ _ _ _ _ us hl => match us, hl with | [_, _, _], _ => rfl
  obtain ⟨fd36, D36⟩ := c.def_ 36 (d := ⟨("Keeper", some "lay"), "lay", "Keeper.lay", defArgs (sKeep 6), defBody (sKeep 6), defScope (sKeep 6), [], []⟩) (by rfl)
  have F36 : Fun K "lay" "Keeper.lay" (sKeep 6) (He.fAd K ("Keeper", some "lay")) fd36 := He5.fun_of D36
  have M_lay : Me K (ga K "Keeper") "lay" "Keeper.lay" (sKeep 6) (He.fAd K ("Keeper", some "lay")) fd36 := ⟨F36, He.meth_ok (c.fact 67 (f := .meth "Keeper" "lay") (by rfl))⟩
  have bm_lay : Binds K fd36 ["self", "a", "b", "length"] [] := F36.binds (ps := ["self", "a", "b", "length"]) fun _ _ _ _ _ _ us hl => match us, hl with | [_, _, _, _], _ => rfl
  obtain ⟨fd37, D37⟩ := c.def_ 37 (d := ⟨("Keeper", some "take"), "take", "Keeper.take", defArgs (sKeep 7), defBody (sKeep 7), defScope (sKeep 7), [], []⟩) (by rfl)
  have F37 : Fun K "take" "Keeper.take" (sKeep 7) (He.fAd K ("Keeper", some "take")) fd37 := He5.fun_of D37
  have M_take : Me K (ga K "Keeper") "take" "Keeper.take" (sKeep 7) (He.fAd K ("Keeper", some "take")) fd37 := ⟨F37, He.meth_ok (c.fact 68 (f := .meth "Keeper" "take") (by rfl))⟩
  have bm_take : Binds K fd37 ["self", "a", "b"] [] := F37.binds (ps := ["self", "a", "b"]) fun _ _ _ _ _ _ us hl => match us, hl with | [_, _, _], _ => rfl
  obtain ⟨fd38, D38⟩ := c.def_ 38 (d := ⟨("Keeper", some "net"), "net", "Keeper.net", defArgs (sKeep 8), defBody (sKeep 8), defScope (sKeep 8), [], []⟩) (by rfl)
  have F38 : Fun K "net" "Keeper.net" (sKeep 8) (He.fAd K ("Keeper", some "net")) fd38 := He5.fun_of D38
  have M_net : Me K (ga K "Keeper") "net" "Keeper.net" (sKeep 8) (He.fAd K ("Keeper", some "net")) fd38 := ⟨F38, He.meth_ok (c.fact 69 (f := .meth "Keeper" "net") (by rfl))⟩
  have bm_net : Binds K fd38 ["self"] [] := F38.binds (ps := ["self"]) fun _ _ _ _ _ _ us hl => match us, hl with | [_], _ => rfl
  obtain ⟨fd39, D39⟩ := c.def_ 39 (d := ⟨("Keeper", some "thin"), "thin", "Keeper.thin", defArgs (sKeep 9), defBody (sKeep 9), defScope (sKeep 9), [], []⟩) (by rfl)
  have F39 : Fun K "thin" "Keeper.thin" (sKeep 9) (He.fAd K ("Keeper", some "thin")) fd39 := He5.fun_of D39
  have M_thin : Me K (ga K "Keeper") "thin" "Keeper.thin" (sKeep 9) (He.fAd K ("Keeper", some "thin")) fd39 := ⟨F39, He.meth_ok (c.fact 70 (f := .meth "Keeper" "thin") (by rfl))⟩
  have bm_thin : Binds K fd39 ["self"] [] := F39.binds (ps := ["self"]) fun _ _ _ _ _ _ us hl => match us, hl with | [_], _ => rfl
  obtain ⟨fd40, D40⟩ := c.def_ 40 (d := ⟨("Keeper", some "far"), "far", "Keeper.far", defArgs (sKeep 10), defBody (sKeep 10), defScope (sKeep 10), [], []⟩) (by rfl)
  have F40 : Fun K "far" "Keeper.far" (sKeep 10) (He.fAd K ("Keeper", some "far")) fd40 := He5.fun_of D40
  have M_far : Me K (ga K "Keeper") "far" "Keeper.far" (sKeep 10) (He.fAd K ("Keeper", some "far")) fd40 := ⟨F40, He.meth_ok (c.fact 71 (f := .meth "Keeper" "far") (by rfl))⟩
  have bm_far : Binds K fd40 ["self", "a", "b"] [] := F40.binds (ps := ["self", "a", "b"]) fun _ _ _ _ _ _ us hl => match us, hl with | [_, _, _], _ => rfl
  have B : Blt mg := ⟨He.free_ok X G (c.fact 39 (f := .free "len") (by rfl)), He.free_ok X G (c.fact 40 (f := .free "range") (by rfl)), He.free_ok X G (c.fact 41 (f := .free "sorted") (by rfl)), He.free_ok X G (c.fact 42 (f := .free "tuple") (by rfl)), He.free_ok X G (c.fact 43 (f := .free "list") (by rfl)), He.free_ok X G (c.fact 44 (f := .free "str") (by rfl)), He.free_ok X G (c.fact 45 (f := .free "int") (by rfl)), He.free_ok X G (c.fact 46 (f := .free "isinstance") (by rfl)), He.free_ok X G (c.fact 47 (f := .free "min") (by rfl)), He.free_ok X G (c.fact 48 (f := .free "max") (by rfl)), He.free_ok X G (c.fact 49 (f := .free "all") (by rfl)), He.free_ok X G (c.fact 50 (f := .free "repr") (by rfl)), He.free_ok X G (c.fact 51 (f := .free "ValueError") (by rfl))⟩
  obtain ⟨t1, ht1⟩ := He.str_ok X G (c.fact 56 (f := .str "LETTERS" letters) (by rfl))
  obtain ⟨t6, ht6⟩ := He.str_ok X G (c.fact 57 (f := .str "FIGURES" figures) (by rfl))
  obtain ⟨t2, ht2⟩ := He.int_ok X G (c.fact 52 (f := .int "LONGEST_NAME" 8) (by rfl))
  obtain ⟨t3, ht3⟩ := He.int_ok X G (c.fact 53 (f := .int "MOST_PLACES" 24) (by rfl))
  obtain ⟨t4, ht4⟩ := He.int_ok X G (c.fact 54 (f := .int "MOST_TIES" 60) (by rfl))
  obtain ⟨t5, ht5⟩ := He.int_ok X G (c.fact 55 (f := .int "MOST_LENGTH" 1000000) (by rfl))
  have CC : Cst mg t1 t2 t3 t4 t5 t6 := ⟨ht1, ht2, ht3, ht4, ht5, ht6⟩
  have KT : KTxt K mg (ga K "Keeper") := ⟨He.cls_ok (c.fact 58 (f := .cls "Keeper") (by rfl)), He.noat_ok (c.fact 59 (f := .noat "Keeper" "own_times") (by rfl)), He.noat_ok (c.fact 60 (f := .noat "Keeper" "own_net") (by rfl)), He.noat_ok (c.fact 61 (f := .noat "Keeper" "own_thin") (by rfl))⟩
  have MK := He.mkr_ok (c.fact 72 (f := .mkr "Keeper") (by rfl))
  obtain ⟨q_twice, kp_twice, sb_twice, ty_twice⟩ := He.exc_ok (c.fact 73 (f := .exc "Twice") (by rfl))
  have R_twice : Er K mg "Twice" (erK K "twice") := by rw [er_twice]; exact ⟨q_twice, He.glo_ok X G (c.fact 35 (f := .glo "Twice") (by rfl)), kp_twice, sb_twice, ty_twice⟩
  obtain ⟨q_many, kp_many, sb_many, ty_many⟩ := He.exc_ok (c.fact 74 (f := .exc "TooMany") (by rfl))
  have R_many : Er K mg "TooMany" (erK K "many") := by rw [er_many]; exact ⟨q_many, He.glo_ok X G (c.fact 36 (f := .glo "TooMany") (by rfl)), kp_many, sb_many, ty_many⟩
  obtain ⟨q_place, kp_place, sb_place, ty_place⟩ := He.exc_ok (c.fact 75 (f := .exc "NoPlace") (by rfl))
  have R_place : Er K mg "NoPlace" (erK K "place") := by rw [er_place]; exact ⟨q_place, He.glo_ok X G (c.fact 37 (f := .glo "NoPlace") (by rfl)), kp_place, sb_place, ty_place⟩
  obtain ⟨q_tie, kp_tie, sb_tie, ty_tie⟩ := He.exc_ok (c.fact 76 (f := .exc "NoTie") (by rfl))
  have R_tie : Er K mg "NoTie" (erK K "tie") := by rw [er_tie]; exact ⟨q_tie, He.glo_ok X G (c.fact 38 (f := .glo "NoTie") (by rfl)), kp_tie, sb_tie, ty_tie⟩
  have RR : Errs K mg (erK K) := ⟨R_twice, R_many, R_place, R_tie⟩
  obtain ⟨x1, x⟩ := He.ba hex
  obtain ⟨x2, x⟩ := He.ba x
  obtain ⟨x3, x4⟩ := He.ba x
  have KD : Kinds K mg (erK K) (ga K "NoLine") (ga K "NoPaper") (ga K "NoRow") := ⟨He.glo_ok X G (c.fact 33 (f := .glo "NoLine") (by rfl)), He.glo_ok X G (c.fact 32 (f := .glo "NoPaper") (by rfl)), He.glo_ok X G (c.fact 34 (f := .glo "NoRow") (by rfl)), kind_ok er_twice x1, kind_ok er_many x2, kind_ok er_place x3, kind_ok er_tie x4⟩
  have EX : ∀ z : Str, (z = "twice" ∨ z = "many" ∨ z = "place" ∨ z = "tie") → PySem.W.exmOne K (.ref (erK K z)) (.ref (ga K "ThinError")) = some true := by
    rintro z (rfl | rfl | rfl | rfl)
    · rw [er_twice]; exact He.exm_ok (c.fact 77 (f := .exm "Twice" "ThinError" true) (by rfl))
    · rw [er_many]; exact He.exm_ok (c.fact 78 (f := .exm "TooMany" "ThinError" true) (by rfl))
    · rw [er_place]; exact He.exm_ok (c.fact 79 (f := .exm "NoPlace" "ThinError" true) (by rfl))
    · rw [er_tie]; exact He.exm_ok (c.fact 80 (f := .exm "NoTie" "ThinError" true) (by rfl))
  have e0 := hfa.symm.trans A_law.g
  cases e0
  have bb := FunD.bindsA (ps := ["_law_script"]) D28 fun _ _ _ _ _ _ us hl => match us, hl with | [_], _ => rfl
  refine ⟨fd28, fun s v => bb s [v] rfl, fun base _ _ => ?_⟩
  have G_near : FnOk P w K mg base CX0 2 _ _ ["net", "place"] (spNear K) := ok_near A_nearest A_ties_at b_ties_at B
  have G_far : FnOk P w K mg base CX0 3 _ _ ["net", "a", "b"] (spFar K) := ok_far A_far A_nearest b_nearest A_ties_at b_ties_at B
  have G_wanted : FnOk P w K mg base CX0 4 _ _ ["net", "times", "kept", "tie"] (spWanted K) := ok_wanted A_is_wanted A_far b_far G_far A_only b_only A_is_within b_is_within B
  have G_thin : FnOk P w K mg base CX0 5 _ _ ["net", "times"] (spThin K) := ok_thin A_thinned A_is_wanted b_is_wanted G_wanted A_only b_only A_order_of b_order_of A_rank B
  have G_turn : FnOk P w K mg base CX0 6 _ _ ["self", "net"] (spTurn K (ga K "Keeper")) := ok_turn M_turn.F KT A_thinned b_thinned G_thin A_order_of b_order_of A_rank B
  have G_ask : FnOk P w K mg base (L2.CX P w) 1 _ _ ["self", "names"] (spAsk K (ga K "Keeper") (erK K)) := ok_ask M_ask_places.F KT RR.pl
  have G_come : FnOk P w K mg base (L2.CX P w) 7 _ _ ["self", "name"] (spCome K (ga K "Keeper") (erK K)) := ok_come M_come.F KT RR M_turn bm_turn G_turn ht3 B
  have G_go : FnOk P w K mg base (L2.CX P w) 7 _ _ ["self", "name"] (spGo K (ga K "Keeper") (erK K)) := ok_go M_go.F KT M_turn bm_turn G_turn M_ask_places bm_ask_places G_ask B
  have G_lay : FnOk P w K mg base (L2.CX P w) 7 _ _ ["self", "a", "b", "length"] (spLay K (ga K "Keeper") (erK K)) := ok_lay M_lay.F KT RR M_turn bm_turn G_turn M_ask_places bm_ask_places G_ask M_rest_of bm_rest_of ht4 B
  have G_take : FnOk P w K mg base (L2.CX P w) 7 _ _ ["self", "a", "b"] (spTake K (ga K "Keeper") (erK K)) := ok_take M_take.F KT RR M_turn bm_turn G_turn M_ask_places bm_ask_places G_ask M_rest_of bm_rest_of B
  have G_kfar : FnOk P w K mg base (L2.CX P w) 4 _ _ ["self", "a", "b"] (spKFar K (ga K "Keeper") (erK K)) := ok_kfar M_far.F KT A_far b_far G_far M_ask_places bm_ask_places G_ask
  have G_read : FnOk P w K mg base CX0 3 _ _ ["lines"] (spRead K) := ok_read A_read_net A_place_fault b_place_fault A_tie_fault b_tie_fault A_length_of_word b_length_of_word A_is_name b_is_name CC B
  have G_up : FnOk P w K mg base CX0 7 _ _ ["lines", "times"] (spUp K (ga K "Keeper")) := ok_up A_taken_up KT (He.glo_ok X G (c.fact 30 (f := .glo "Keeper") (by rfl))) MK F_init bm_init M_turn bm_turn G_turn A_read_net b_read_net G_read
  have G_next : FnOk P w K mg base CX0 1 _ _ ["_law_feed_here", "_law_many"] (spNext K) := ok_next A__law_next B
  have G_pl : FnOk P w K mg base CX0 2 _ _ ["_law_feed_here", "_law_many"] (spPlaces K) := ok_places A__law_places A__law_next b__law_next G_next A__law_names b__law_names B
  have G_begun : FnOk P w K mg base CX0 8 _ _ ["_law_feed_here", "_law_times_here", "_law_way"] (spBegun K (ga K "Keeper")) := ok_begun A__law_begun A__law_places b__law_places G_pl A__law_next b__law_next G_next A_taken_up b_taken_up G_up B
  have G_told : FnOk P w K mg base (L2.CX P w) 8 _ _ ["_law_keeper", "_law_deed_here"] (spTold K (ga K "Keeper") (erK K)) := ok_told A__law_told KT M_come bm_come G_come M_go bm_go G_go M_lay bm_lay G_lay M_take bm_take G_take M_far bm_far G_kfar
  have G_tried : FnOk P w K mg base CX0 9 _ _ ["_law_keeper", "_law_deed_here"] (spTried K (ga K "Keeper")) := ok_tried A__law_tried A__law_told b__law_told G_told A__law_sort b__law_sort (ok_sort A__law_sort RR KD B) (He.glo_ok X G (c.fact 31 (f := .glo "ThinError") (by rfl))) EX
  exact ok_law A_law KT B A__law_feed b__law_feed (ok_feed A__law_feed B) A__law_times b__law_times (ok_times A__law_times A__law_next b__law_next G_next) A__law_next b__law_next G_next A__law_begun b__law_begun G_begun
    A__law_deed b__law_deed (ok_deed A__law_deed A__law_next b__law_next G_next B) A__law_names b__law_names (ok_names A__law_names) A__law_due b__law_due (ok_due A__law_due A__law_pair b__law_pair B) A__law_tried b__law_tried G_tried
    A__law_do b__law_do (ok_do A__law_do A__law_pair b__law_pair B) A__law_net_of b__law_net_of (ok_netOf A__law_net_of B) M_net bm_net (ok_net M_net.F KT) M_thin bm_thin (ok_thinNet M_thin.F KT)
end L2.T
set_option maxHeartbeats 0
open PySem PySem.W PySem.Calls PyProof.Rows in
theorem PySem.Challenge.cw_thinnet_k69_deeds_refused_holds : PySem.Challenge.rw_thinnet_k69_deeds_refused.Holds := by
  w_on; o_law
  refine HandSHeadRun.head_any (r := OpenLaw.row PySem.Challenge.rw_thinnet_k69_deeds_refused) (q := view (OpenLaw.row PySem.Challenge.rw_thinnet_k69_deeds_refused).prog [53]) (H := L2.T.hk) (ob := L2.T.ob) (M := 4000) (loose := L2.T.names) (d := HandSHeadRun.topDef (OpenLaw.row PySem.Challenge.rw_thinnet_k69_deeds_refused).prog 53) (kwd := []) L2.T.ob_eq
    (by kernel_rfl) (fun s => by kernel_rfl) L2.T.run (by kernel_rfl) (by kernel_rfl) (by kernel_rfl) (by rfl) (by first | assumption | decide +kernel) (by decide +kernel) ⟨rfl, rfl, rfl, rfl, rfl, by decide +kernel⟩ ?hw ?hc
  case hw => w_witness2
  case hc =>
    refine L2.T.walk_ofG (l := PySem.Challenge.rw_thinnet_k69_deeds_refused) (n := 63) (k := 10) (x := "_law_script") rfl (by decide) (by kernel_rfl) ⟨rfl, by decide, by decide⟩ ?F
    intro w mg a h Y G hmg0
    obtain ⟨K, KX, c⟩ := Y
    have hmg : mg ("law" : PySem.Str) = some (.ref a) := by
      have e : (HandSHeadRun.topDef (OpenLaw.row PySem.Challenge.rw_thinnet_k69_deeds_refused).prog 53).name = ("law" : PySem.Str) := by kernel_rfl
      rw [← e]
      exact hmg0
    obtain ⟨fd, hb, hF⟩ := L2.T.facts (P := (PySem.Challenge.rw_thinnet_k69_deeds_refused).prog) (w := w) KX G hmg c.t.d c.more
    exact ⟨K, fd, L2.T.spLaw K, KX, hb, fun H b ns hl _ hS => ⟨b, ns, rfl, hS, fun _ => rfl⟩, hF⟩
