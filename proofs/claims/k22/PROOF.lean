import PyProof.Rows.All
import Wide.All
import OpenK.AllK
import Wide.FinOn
import KE.KNestM
import KE.KLam
import HandS.ForMost
import HandS.EndTab
import HandS.Text
import HandS.TupAny
import HandS.TupLe
import HandS.SortKw
import KE.KDictWalk
import HandS.Lambda
import HandS.Nested
import KE.SortKeyHeap
import HandS.Conv
import KE.KDictPairs
import KE.KDictCopyH
import KE.KDictDisplayH
import HandS.Exc
import HandS.ExcInit
import HandS.ExcIs
import HandS.ExcField
import HandS.IsInst
import HandS.WordsExc
import KE.KExcIs
import HandS.Steps
import KE.IntTextLaws
import HandS.Evl
import HandS.Zip
import PySem.Challenge.RW_codemend_k22_reads_and_put_ins
set_option Elab.async false
set_option linter.all false
set_option maxRecDepth 100000
set_option maxHeartbeats 4000000
section
/-! Labels and their order. -/
namespace Cm
open PySem PySem.Spec

abbrev Pl := List Str

/-! ### a label's rank -/
def dg (c : Nat) : Bool := decide (48 ≤ c) && decide (c ≤ 57)
def figs (s : Str) : Nat := (s.cps.toList.takeWhile dg).length
def key (s : Str) : Nat × List Nat := (NumText.digitsVal (s.cps.toList.takeWhile dg), s.cps.toList.dropWhile dg)
def klt (a b : Nat × List Nat) : Prop := a.1 < b.1 ∨ (a.1 = b.1 ∧ a.2 < b.2)
instance : DecidableRel klt := fun a b => by unfold klt; exact inferInstance

def sufs : List (List Nat) := [[], [97], [98], [97, 97], [97, 122], [122, 122, 122]]
/-- a label as the law makes it -/
def IsLab (s : Str) : Prop := ∃ (n : Nat) (u : List Nat), 1 ≤ n ∧ n ≤ 999999999 ∧ u ∈ sufs ∧ s.cps.toList = TL.numL n ++ u

theorem sufs_nd : ∀ u ∈ sufs, ∀ c ∈ u, 97 ≤ c ∧ c ≤ 122 := by decide
theorem takeWhile_app {p : Nat → Bool} : ∀ {a b : List Nat}, (∀ c ∈ a, p c = true) → (∀ c ∈ b, p c = false) → (a ++ b).takeWhile p = a ∧ (a ++ b).dropWhile p = b
  | [], [], _, _ => ⟨rfl, rfl⟩
  | [], c :: b, _, h => by
    have e := h c List.mem_cons_self
    simp [List.takeWhile, List.dropWhile, e]
  | c :: a, b, h, h' => by
    have e := h c List.mem_cons_self
    have ih := takeWhile_app (a := a) (b := b) (fun x hx => h x (List.mem_cons_of_mem _ hx)) h'
    simp [List.takeWhile, List.dropWhile, e, ih.1, ih.2]
theorem isLab_parts {s : Str} {n : Nat} {u : List Nat} (hu : u ∈ sufs) (e : s.cps.toList = TL.numL n ++ u) : s.cps.toList.takeWhile dg = TL.numL n ∧ s.cps.toList.dropWhile dg = u := by
  rw [e]
  refine takeWhile_app (fun c hc => ?_) (fun c hc => ?_)
  · have h := TL.numL_digits n c hc
    simp [dg, h.1, h.2]
  · have h := sufs_nd u hu c hc
    have : ¬ c ≤ 57 := by omega
    simp [dg, this]
theorem isLab_key {s : Str} {n : Nat} {u : List Nat} (hu : u ∈ sufs) (e : s.cps.toList = TL.numL n ++ u) : key s = (n, u) := by
  obtain ⟨h1, h2⟩ := isLab_parts hu e
  unfold key
  rw [h1, h2, TL.numL_val]
theorem str_ext {a b : Str} (h : a.cps.toList = b.cps.toList) : a = b := by
  obtain ⟨a⟩ := a
  obtain ⟨b⟩ := b
  have : a = b := Array.toList_inj.mp h
  rw [this]
theorem key_inj {a b : Str} (ha : IsLab a) (hb : IsLab b) (h : key a = key b) : a = b := by
  obtain ⟨n, u, _, _, hu, e⟩ := ha
  obtain ⟨m, v, _, _, hv, e'⟩ := hb
  rw [isLab_key hu e, isLab_key hv e'] at h
  obtain ⟨h1, h2⟩ := Prod.mk.inj h
  subst h1
  subst h2
  exact str_ext (e.trans e'.symm)
theorem isLab_ne {s : Str} (h : IsLab s) : s ≠ Str.empty := by
  obtain ⟨n, u, _, _, _, e⟩ := h
  intro z
  rw [z] at e
  have := TL.numL_ne n
  cases q : TL.numL n with
  | nil => exact this q
  | cons c r =>
    rw [q] at e
    cases e
theorem isLab_len {s : Str} (h : IsLab s) : s.length ≤ 12 := by
  obtain ⟨n, u, _, h9, hu, e⟩ := h
  have e1 : (TL.numL n).length ≤ 9 := TL.numL_len (by decide) (by omega)
  have e2 : u.length ≤ 3 := (by decide : ∀ u ∈ sufs, u.length ≤ 3) u hu
  have e3 : s.length = s.cps.toList.length := by
    show s.cps.size = s.cps.toList.length
    simp
  rw [e3, e, List.length_append]
  omega
theorem isLab_ok {s : Str} (h : IsLab s) : PyData.strOk s = true := by
  obtain ⟨n, u, _, h9, hu, e⟩ := h
  unfold PyData.strOk
  rw [← Array.all_toList, e, List.all_eq_true]
  intro c hc
  rcases List.mem_append.mp hc with q | q
  · have := TL.numL_digits n c q
    exact decide_eq_true (by omega)
  · have := sufs_nd u hu c q
    exact decide_eq_true (by omega)

/-! ### the order -/
theorem ll_irrefl : ∀ l : List Nat, ¬ l < l := fun l h => List.lt_irrefl l h
theorem ll_tri : ∀ a b : List Nat, a < b ∨ a = b ∨ b < a
  | [], [] => .inr (.inl rfl)
  | [], c :: b => .inl (List.nil_lt_cons c b)
  | c :: a, [] => .inr (.inr (List.nil_lt_cons c a))
  | c :: a, d :: b => by
    rcases Nat.lt_trichotomy c d with h | h | h
    · exact .inl (List.cons_lt_cons_iff.mpr (.inl h))
    · subst h
      rcases ll_tri a b with h | h | h
      · exact .inl (List.cons_lt_cons_iff.mpr (.inr ⟨rfl, h⟩))
      · exact .inr (.inl (by rw [h]))
      · exact .inr (.inr (List.cons_lt_cons_iff.mpr (.inr ⟨rfl, h⟩)))
    · exact .inr (.inr (List.cons_lt_cons_iff.mpr (.inl h)))
theorem klt_irrefl (a : Nat × List Nat) : ¬ klt a a := fun h => h.elim (fun h => Nat.lt_irrefl _ h) fun h => ll_irrefl _ h.2
theorem klt_trans {a b c : Nat × List Nat} (h : klt a b) (h' : klt b c) : klt a c := by
  rcases h with h | ⟨h1, h2⟩ <;> rcases h' with h' | ⟨h1', h2'⟩
  · exact .inl (Nat.lt_trans h h')
  · exact .inl (by omega)
  · exact .inl (by omega)
  · exact .inr ⟨h1.trans h1', List.lt_trans h2 h2'⟩
theorem klt_tri (a b : Nat × List Nat) : klt a b ∨ a = b ∨ klt b a := by
  rcases Nat.lt_trichotomy a.1 b.1 with h | h | h
  · exact .inl (.inl h)
  · rcases ll_tri a.2 b.2 with q | q | q
    · exact .inl (.inr ⟨h, q⟩)
    · exact .inr (.inl (Prod.ext h q))
    · exact .inr (.inr (.inr ⟨h.symm, q⟩))
  · exact .inr (.inr (.inl h))
theorem klt_asymm {a b : Nat × List Nat} (h : klt a b) : ¬ klt b a := fun h' => klt_irrefl _ (klt_trans h h')
end Cm
end

section
/-! Trees, places, tables of places. -/
namespace Cm
open PySem PySem.Spec

inductive T where
  | mk (l : Str) (ws : List Str) (ks : List T)
namespace T
def lab : T → Str | .mk l _ _ => l
def wds : T → List Str | .mk _ w _ => w
def kids : T → List T | .mk _ _ k => k
end T
theorem T.eta (t : T) : T.mk t.lab t.wds t.kids = t := by cases t; rfl
mutual
theorem T.indA {P : T → Prop} (h : ∀ l ws ks, (∀ k ∈ ks, P k) → P (.mk l ws ks)) : ∀ t, P t
  | .mk l ws ks => h l ws ks (T.indL h ks)
theorem T.indL {P : T → Prop} (h : ∀ l ws ks, (∀ k ∈ ks, P k) → P (.mk l ws ks)) : ∀ ks : List T, ∀ k ∈ ks, P k
  | [], k, hk => by cases hk
  | a :: r, k, hk => by
    rcases List.mem_cons.mp hk with e | e
    · rw [e]; exact T.indA h a
    · exact T.indL h r k e
end
theorem T.ind {P : T → Prop} (t : T) (h : ∀ l ws ks, (∀ k ∈ ks, P k) → P (.mk l ws ks)) : P t := T.indA h t

/-! ### depth -/
mutual
def T.deep : T → Nat
  | .mk _ _ ks => deepL ks + 1
def deepL : List T → Nat
  | [] => 0
  | k :: r => max k.deep (deepL r)
end
theorem T.deep_eq (t : T) : t.deep = deepL t.kids + 1 := by cases t; rfl
theorem deepL_le {ks : List T} {k : T} (h : k ∈ ks) : k.deep ≤ deepL ks := by
  induction ks with
  | nil => cases h
  | cons a r ih =>
    unfold deepL
    rcases List.mem_cons.mp h with e | e
    · rw [e]; exact Nat.le_max_left _ _
    · exact Nat.le_trans (ih e) (Nat.le_max_right _ _)
theorem deepL_of {ks : List T} {n : Nat} (h : ∀ k ∈ ks, k.deep ≤ n) : deepL ks ≤ n := by
  induction ks with
  | nil => exact Nat.zero_le _
  | cons a r ih =>
    unfold deepL
    exact Nat.max_le.mpr ⟨h a List.mem_cons_self, ih fun k hk => h k (List.mem_cons_of_mem _ hk)⟩
theorem deep_kid {t k : T} (h : k ∈ t.kids) : k.deep + 1 ≤ t.deep := by
  rw [t.deep_eq]
  have := deepL_le h
  omega
theorem deep_pos (t : T) : 1 ≤ t.deep := by rw [t.deep_eq]; omega

/-! ### the node at a place -/
def kidOf (ks : List T) (l : Str) : Option T := ks.find? fun k => decide (k.lab = l)
def nodeAt : T → Pl → Option T
  | t, [] => some t
  | t, a :: p => match kidOf t.kids a with
    | none => none
    | some k => nodeAt k p
theorem nodeAt_nil (t : T) : nodeAt t [] = some t := rfl
theorem nodeAt_cons (t : T) (a : Str) (p : Pl) : nodeAt t (a :: p) = (kidOf t.kids a).bind fun k => nodeAt k p := by
  show (match kidOf t.kids a with | none => none | some k => nodeAt k p) = _
  cases kidOf t.kids a <;> rfl
theorem nodeAt_app (t : T) (p q : Pl) : nodeAt t (p ++ q) = (nodeAt t p).bind fun k => nodeAt k q := by
  induction p generalizing t with
  | nil => rfl
  | cons a p ih =>
    rw [List.cons_append, nodeAt_cons, nodeAt_cons]
    cases kidOf t.kids a with
    | none => rfl
    | some k => exact ih k
theorem kidOf_some {ks : List T} {l : Str} {k : T} (h : kidOf ks l = some k) : k ∈ ks ∧ k.lab = l := ⟨List.mem_of_find?_eq_some h, by simpa using List.find?_some h⟩
theorem kidOf_none {ks : List T} {l : Str} : kidOf ks l = none ↔ ∀ k ∈ ks, k.lab ≠ l := by
  unfold kidOf
  rw [List.find?_eq_none]
  simp

/-! ### well made -/
def Ord (ks : List T) : Prop := ks.Pairwise fun a b => klt (key a.lab) (key b.lab)
inductive Wf : T → Prop
  | mk {l : Str} {ws : List Str} {ks : List T} : (∀ k ∈ ks, Wf k) → (∀ k ∈ ks, IsLab k.lab) → Ord ks → (∀ w ∈ ws, PyData.strOk w = true) → Wf (.mk l ws ks)
theorem Wf.kid {t : T} (h : Wf t) : ∀ k ∈ t.kids, Wf k := by cases h with | mk a b c d => exact a
theorem Wf.labs {t : T} (h : Wf t) : ∀ k ∈ t.kids, IsLab k.lab := by cases h with | mk a b c d => exact b
theorem Wf.ord {t : T} (h : Wf t) : Ord t.kids := by cases h with | mk a b c d => exact c
theorem Wf.wok {t : T} (h : Wf t) : ∀ w ∈ t.wds, PyData.strOk w = true := by cases h with | mk a b c d => exact d
theorem Ord.inj {ks : List T} (h : Ord ks) : ∀ a ∈ ks, ∀ b ∈ ks, a.lab = b.lab → a = b := by
  induction ks with
  | nil => intro a ha; cases ha
  | cons x r ih =>
    obtain ⟨h1, h2⟩ := List.pairwise_cons.mp h
    intro a ha b hb e
    rcases List.mem_cons.mp ha with ea | ea <;> rcases List.mem_cons.mp hb with eb | eb
    · rw [ea, eb]
    · subst ea
      have := h1 b eb
      rw [e] at this
      exact absurd this (klt_irrefl _)
    · subst eb
      have := h1 a ea
      rw [e] at this
      exact absurd this (klt_irrefl _)
    · exact ih h2 a ea b eb e
theorem kidOf_mem {ks : List T} (h : Ord ks) {k : T} (hk : k ∈ ks) : kidOf ks k.lab = some k := by
  cases e : kidOf ks k.lab with
  | none => exact absurd rfl (kidOf_none.mp e k hk)
  | some k' =>
    obtain ⟨h1, h2⟩ := kidOf_some e
    rw [h.inj k' h1 k hk h2]
theorem nodeAt_wf {t n : T} {p : Pl} (h : Wf t) (e : nodeAt t p = some n) : Wf n := by
  induction p generalizing t with
  | nil => cases e; exact h
  | cons a p ih =>
    rw [nodeAt_cons] at e
    cases q : kidOf t.kids a with
    | none => rw [q] at e; cases e
    | some k =>
      rw [q] at e
      exact ih (h.kid k (kidOf_some q).1) e
theorem nodeAt_deep {t n : T} {p : Pl} (e : nodeAt t p = some n) : p.length + n.deep ≤ t.deep := by
  induction p generalizing t with
  | nil => cases e; simp
  | cons a p ih =>
    rw [nodeAt_cons] at e
    cases q : kidOf t.kids a with
    | none => rw [q] at e; cases e
    | some k =>
      rw [q] at e
      have h1 := ih e
      have h2 := deep_kid (kidOf_some q).1
      rw [List.length_cons]
      omega
theorem nodeAt_labs {t n : T} {p : Pl} (h : Wf t) (e : nodeAt t p = some n) : ∀ a ∈ p, IsLab a := by
  induction p generalizing t with
  | nil => intro a ha; cases ha
  | cons b p ih =>
    rw [nodeAt_cons] at e
    cases q : kidOf t.kids b with
    | none => rw [q] at e; cases e
    | some k =>
      rw [q] at e
      intro a ha
      rcases List.mem_cons.mp ha with z | z
      · rw [z, ← (kidOf_some q).2]
        exact h.labs k (kidOf_some q).1
      · exact ih (h.kid k (kidOf_some q).1) e a z

/-! ### two trees with the same words at the same places -/
theorem ord_same {ks ls : List T} (h : Ord ks) (h' : Ord ls) (hk : ∀ k ∈ ks, IsLab k.lab) (hl : ∀ k ∈ ls, IsLab k.lab) (he : ∀ a, (kidOf ks a).isSome = (kidOf ls a).isSome) (hs : ∀ k ∈ ks, ∀ l ∈ ls, k.lab = l.lab → k = l) : ks = ls := by
  induction ks generalizing ls with
  | nil =>
    cases ls with
    | nil => rfl
    | cons b r =>
      have := he b.lab
      rw [kidOf_mem h' List.mem_cons_self] at this
      cases this
  | cons a r ih =>
    cases ls with
    | nil =>
      have := he a.lab
      rw [kidOf_mem h List.mem_cons_self] at this
      cases this
    | cons b q =>
      obtain ⟨h1, h2⟩ := List.pairwise_cons.mp h
      obtain ⟨h1', h2'⟩ := List.pairwise_cons.mp h'
      -- a stands in ls
      have inL : ∃ k ∈ b :: q, k.lab = a.lab := by
        have e := he a.lab
        rw [kidOf_mem h List.mem_cons_self] at e
        obtain ⟨k, hk⟩ := Option.isSome_iff_exists.mp e.symm
        exact ⟨k, (kidOf_some hk).1, (kidOf_some hk).2⟩
      have inK : ∃ k ∈ a :: r, k.lab = b.lab := by
        have e := he b.lab
        rw [kidOf_mem h' List.mem_cons_self] at e
        obtain ⟨k, hk⟩ := Option.isSome_iff_exists.mp e
        exact ⟨k, (kidOf_some hk).1, (kidOf_some hk).2⟩
      have elb : a.lab = b.lab := by
        obtain ⟨k, hk, ek⟩ := inL
        obtain ⟨j, hj, ej⟩ := inK
        rcases List.mem_cons.mp hk with z | z
        · rw [← ek, z]
        · rcases List.mem_cons.mp hj with y | y
          · rw [← ej, y]
          · have c1 := h1' k z
            have c2 := h1 j y
            rw [ek] at c1
            rw [ej] at c2
            exact absurd c2 (klt_asymm c1)
      have eab : a = b := hs a List.mem_cons_self b List.mem_cons_self elb
      subst eab
      congr 1
      refine ih h2 h2' (fun k z => hk k (List.mem_cons_of_mem _ z)) (fun k z => hl k (List.mem_cons_of_mem _ z)) (fun x => ?_) fun k z l y e => hs k (List.mem_cons_of_mem _ z) l (List.mem_cons_of_mem _ y) e
      by_cases hx : a.lab = x
      · subst hx
        have n1 : kidOf r a.lab = none := kidOf_none.mpr fun k hk e => by
          have := h1 k hk
          rw [e] at this
          exact klt_irrefl _ this
        have n2 : kidOf q a.lab = none := kidOf_none.mpr fun k hk e => by
          have := h1' k hk
          rw [e] at this
          exact klt_irrefl _ this
        rw [n1, n2]
      · have e := he x
        unfold kidOf at e
        rw [List.find?_cons_of_neg (by simpa using hx), List.find?_cons_of_neg (by simpa using hx)] at e
        exact e
theorem same_tree : ∀ (t u : T), Wf t → Wf u → t.lab = u.lab → (∀ p, (nodeAt t p).map T.wds = (nodeAt u p).map T.wds) → t = u := fun t => by
  refine T.ind (P := fun t => ∀ u : T, Wf t → Wf u → t.lab = u.lab → (∀ p, (nodeAt t p).map T.wds = (nodeAt u p).map T.wds) → t = u) t fun l ws ks ih u ht hu el hp => ?_
  obtain ⟨l', ws', ks'⟩ := u
  have e1 : l = l' := el
  have e2 : ws = ws' := Option.some.inj (hp [])
  subst e1
  subst e2
  have e3 : ks = ks' := by
    refine ord_same ht.ord hu.ord ht.labs hu.labs (fun a => ?_) fun k hk k' hk' e => ?_
    · have q := hp [a]
      rw [nodeAt_cons, nodeAt_cons] at q
      show (kidOf ks a).isSome = (kidOf ks' a).isSome
      have q' : ((kidOf ks a).bind fun k => nodeAt k []).map T.wds = ((kidOf ks' a).bind fun k => nodeAt k []).map T.wds := q
      cases c1 : kidOf ks a <;> cases c2 : kidOf ks' a <;> rw [c1, c2] at q' <;> first | rfl | cases q'
    · refine ih k hk k' (ht.kid k hk) (hu.kid k' hk') e fun p => ?_
      have q := hp (k.lab :: p)
      rw [nodeAt_cons, nodeAt_cons] at q
      have c1 : kidOf ks k.lab = some k := kidOf_mem ht.ord hk
      have c2 : kidOf ks' k.lab = some k' := by
        rw [e]
        exact kidOf_mem hu.ord hk'
      have q' : ((kidOf ks k.lab).bind fun k => nodeAt k p).map T.wds = ((kidOf ks' k.lab).bind fun k => nodeAt k p).map T.wds := q
      rw [c1, c2] at q'
      exact q'
  rw [e3]
end Cm
end

section
/-! Tables of places and what is done to trees. -/
namespace Cm
open PySem PySem.Spec

abbrev Nd := List (Pl × List Str)
def lk (N : Nd) (p : Pl) : Option (List Str) := (N.find? fun e => decide (e.1 = p)).map (·.2)
def put (N : Nd) (p : Pl) (w : List Str) : Nd := if (N.any fun e => decide (e.1 = p)) = true then N.map (fun e => if e.1 = p then (e.1, w) else e) else N ++ [(p, w)]
theorem lk_nil (p : Pl) : lk [] p = none := rfl
theorem lk_cons (e : Pl × List Str) (N : Nd) (p : Pl) : lk (e :: N) p = if e.1 = p then some e.2 else lk N p := by
  unfold lk
  by_cases h : e.1 = p
  · rw [List.find?_cons_of_pos (by simpa using h), if_pos h] <;> rfl
  · rw [List.find?_cons_of_neg (by simpa using h), if_neg h]
theorem lk_any (N : Nd) (p : Pl) : (N.any fun e => decide (e.1 = p)) = (lk N p).isSome := by
  induction N with
  | nil => rfl
  | cons e N ih =>
    rw [lk_cons, List.any_cons, ih]
    by_cases h : e.1 = p
    · rw [if_pos h, decide_eq_true h] <;> rfl
    · rw [if_neg h, decide_eq_false h, Bool.false_or]
theorem lk_mem {N : Nd} {p : Pl} : (lk N p).isSome = true ↔ p ∈ N.map (·.1) := by
  rw [← lk_any, List.any_eq_true, List.mem_map]
  exact ⟨fun ⟨e, h1, h2⟩ => ⟨e, h1, of_decide_eq_true h2⟩, fun ⟨e, h1, h2⟩ => ⟨e, h1, decide_eq_true h2⟩⟩
theorem lk_none {N : Nd} {p : Pl} : lk N p = none ↔ p ∉ N.map (·.1) := by
  rw [← lk_mem]
  cases lk N p <;> simp
theorem lk_in {N : Nd} {p : Pl} {w : List Str} (h : lk N p = some w) : (p, w) ∈ N := by
  induction N with
  | nil => cases h
  | cons e N ih =>
    rw [lk_cons] at h
    by_cases c : e.1 = p
    · rw [if_pos c] at h
      cases h
      rw [← c]
      exact List.mem_cons_self
    · rw [if_neg c] at h
      exact List.mem_cons_of_mem _ (ih h)
theorem lk_put (N : Nd) (p q : Pl) (w : List Str) : lk (put N p w) q = if q = p then some w else lk N q := by
  have hm : ∀ N : Nd, lk (N.map fun e => if e.1 = p then (e.1, w) else e) q = if q = p then (lk N q).map fun _ => w else lk N q := by
    intro N
    induction N with
    | nil => split <;> rfl
    | cons e N ih =>
      rw [List.map_cons, lk_cons, lk_cons, ih]
      by_cases h : e.1 = p
      · rw [if_pos h]
        by_cases c : e.1 = q
        · rw [if_pos c, if_pos c, if_pos (c.symm.trans h)] <;> rfl
        · rw [if_neg c, if_neg c]
      · rw [if_neg h]
        by_cases c : e.1 = q
        · rw [if_pos c, if_pos c, if_neg fun z => h (c.trans z)]
        · rw [if_neg c, if_neg c]
  have hs : ∀ N : Nd, lk (N ++ [(p, w)]) q = match lk N q with | some x => some x | none => if p = q then some w else none := by
    intro N
    induction N with
    | nil =>
      show lk [(p, w)] q = _
      rw [lk_cons, lk_nil]
    | cons e N ih =>
      rw [List.cons_append, lk_cons, lk_cons, ih]
      by_cases c : e.1 = q
      · rw [if_pos c, if_pos c]
      · rw [if_neg c, if_neg c]
  unfold put
  by_cases h : (N.any fun e => decide (e.1 = p)) = true
  · rw [if_pos h, hm]
    rw [lk_any] at h
    by_cases c : q = p
    · rw [if_pos c, if_pos c]
      obtain ⟨x, hx⟩ := Option.isSome_iff_exists.mp h
      rw [c, hx] <;> rfl
    · rw [if_neg c, if_neg c]
  · rw [if_neg h, hs]
    rw [lk_any] at h
    by_cases c : q = p
    · rw [if_pos c]
      cases e : lk N p with
      | some x => rw [e] at h; exact absurd rfl h
      | none => rw [c, e]; simp
    · rw [if_neg c]
      cases e : lk N q with
      | some x => rfl
      | none => simp only [if_neg (fun z : p = q => c z.symm)]
theorem put_len (N : Nd) (p : Pl) (w : List Str) : (put N p w).length ≤ N.length + 1 := by
  unfold put
  split
  · rw [List.length_map]; omega
  · rw [List.length_append]; exact Nat.le_refl _
theorem put_keys {N : Nd} {p : Pl} {w : List Str} : (put N p w).map (·.1) = if p ∈ N.map (·.1) then N.map (·.1) else N.map (·.1) ++ [p] := by
  unfold put
  rw [lk_any]
  by_cases h : p ∈ N.map (·.1)
  · rw [if_pos (lk_mem.mpr h), if_pos h, List.map_map]
    refine List.map_congr_left fun e _ => ?_
    show (if e.1 = p then (e.1, w) else e).1 = e.1
    split <;> rfl
  · rw [if_neg fun z => h (lk_mem.mp z), if_neg h, List.map_append] <;> rfl
theorem put_nodup {N : Nd} {p : Pl} {w : List Str} (h : (N.map (·.1)).Nodup) : ((put N p w).map (·.1)).Nodup := by
  rw [put_keys]
  split
  · exact h
  · rename_i c
    refine List.nodup_append.mpr ⟨h, List.nodup_cons.mpr ⟨List.not_mem_nil, List.nodup_nil⟩, fun a ha b hb e => ?_⟩
    rw [List.mem_singleton.mp hb] at e
    exact c (e ▸ ha)

/-! ### a node lies in a table -/
mutual
def laid : Nd → Pl → T → Nd
  | N, p, .mk _ ws ks => laidL (put N p ws) p ks
def laidL : Nd → Pl → List T → Nd
  | N, _, [] => N
  | N, p, k :: r => laidL (laid N (p ++ [k.lab]) k) p r
end
theorem laid_eq (N : Nd) (p : Pl) (t : T) : laid N p t = laidL (put N p t.wds) p t.kids := by cases t; unfold laid; rfl
def orE (a b : Option (List Str)) : Option (List Str) := match a with | some x => some x | none => b
theorem app_ne {p : Pl} {a b : Str} {r s : Pl} (h : a ≠ b) : p ++ a :: r ≠ (p ++ [b]) ++ s := by
  rw [List.append_assoc]
  intro e
  have := List.append_cancel_left e
  exact h (List.cons.inj this).1
theorem app_one (p : Pl) (a : Str) (r : Pl) : p ++ a :: r = (p ++ [a]) ++ r := by rw [List.append_assoc]; rfl
def LaidAt (t : T) : Prop := ∀ (N : Nd) (p : Pl), (∀ r, lk (laid N p t) (p ++ r) = orE ((nodeAt t r).map T.wds) (lk N (p ++ r))) ∧ ∀ q, (∀ r, q ≠ p ++ r) → lk (laid N p t) q = lk N q
theorem laidL_at : ∀ (ks : List T), Ord ks → (∀ k ∈ ks, LaidAt k) → ∀ (N : Nd) (p : Pl),
    (∀ a r, lk (laidL N p ks) (p ++ a :: r) = orE (((kidOf ks a).bind fun k => nodeAt k r).map T.wds) (lk N (p ++ a :: r))) ∧ ∀ q, (∀ a r, q ≠ p ++ a :: r) → lk (laidL N p ks) q = lk N q
  | [], _, _, N, p => ⟨fun a r => by unfold laidL; rfl, fun q _ => by unfold laidL; rfl⟩
  | k :: ks, ho, hk, N, p => by
    obtain ⟨h1, h2⟩ := List.pairwise_cons.mp ho
    obtain ⟨i1, i2⟩ := laidL_at ks h2 (fun x hx => hk x (List.mem_cons_of_mem _ hx)) (laid N (p ++ [k.lab]) k) p
    obtain ⟨j1, j2⟩ := hk k List.mem_cons_self N (p ++ [k.lab])
    unfold laidL
    refine ⟨fun a r => ?_, fun q hq => ?_⟩
    · rw [i1]
      by_cases e : k.lab = a
      · subst e
        have n1 : kidOf ks k.lab = none := kidOf_none.mpr fun x hx e => by
          have := h1 x hx
          rw [e] at this
          exact klt_irrefl _ this
        have s1 : kidOf (k :: ks) k.lab = some k := List.find?_cons_of_pos (by simp)
        rw [n1, s1, app_one p k.lab r, j1]
        rfl
      · have s1 : kidOf (k :: ks) a = kidOf ks a := List.find?_cons_of_neg (by simpa using e)
        rw [s1, j2 _ fun s => app_ne fun z => e z.symm]
    · rw [i2 q hq, j2 q fun r => by rw [← app_one]; exact hq k.lab r]
theorem laid_at : ∀ t : T, Wf t → LaidAt t := fun t => by
  refine T.ind (P := fun t => Wf t → LaidAt t) t fun l ws ks ih h N p => ?_
  obtain ⟨i1, i2⟩ := laidL_at ks h.ord (fun k hk => ih k hk (h.kid k hk)) (put N p ws) p
  rw [laid_eq]
  refine ⟨fun r => ?_, fun q hq => ?_⟩
  · cases r with
    | nil =>
      have e := i2 p fun a r e => by
        have := congrArg List.length e
        rw [List.length_append, List.length_cons] at this
        omega
      rw [List.append_nil]
      show lk (laidL (put N p ws) p ks) p = _
      rw [e, lk_put, if_pos rfl]
      rfl
    | cons a r =>
      show lk (laidL (put N p ws) p ks) (p ++ a :: r) = _
      rw [i1, nodeAt_cons, lk_put, if_neg]
      · rfl
      · intro e
        have := congrArg List.length e
        rw [List.length_append, List.length_cons] at this
        omega
  · show lk (laidL (put N p ws) p ks) q = _
    rw [i2 q fun a r => hq (a :: r), lk_put, if_neg]
    intro e
    exact hq [] (by rw [List.append_nil]; exact e)
/-! sizes -/
mutual
def T.size : T → Nat
  | .mk _ _ ks => sizeL ks + 1
def sizeL : List T → Nat
  | [] => 0
  | k :: r => k.size + sizeL r
end
theorem laid_len : ∀ (t : T) (N : Nd) (p : Pl), (laid N p t).length ≤ N.length + t.size := fun t => by
  refine T.ind (P := fun t => ∀ (N : Nd) (p : Pl), (laid N p t).length ≤ N.length + t.size) t fun l ws ks ih N p => ?_
  have hL : ∀ (ls : List T), (∀ k ∈ ls, ∀ (N : Nd) (p : Pl), (laid N p k).length ≤ N.length + k.size) → ∀ (N : Nd) (p : Pl), (laidL N p ls).length ≤ N.length + sizeL ls := by
    intro ls
    induction ls with
    | nil => intro _ N p; unfold laidL sizeL; omega
    | cons k r ih2 =>
      intro hk N p
      have h1 := hk k List.mem_cons_self N (p ++ [k.lab])
      have h2 := ih2 (fun x hx => hk x (List.mem_cons_of_mem _ hx)) (laid N (p ++ [k.lab]) k) p
      unfold laidL sizeL
      omega
  have h1 := hL ks ih (put N p ws) p
  have h2 := put_len N p ws
  unfold laid T.size
  omega
theorem laid_nodup : ∀ (t : T) (N : Nd) (p : Pl), (N.map (·.1)).Nodup → ((laid N p t).map (·.1)).Nodup := fun t => by
  refine T.ind (P := fun t => ∀ (N : Nd) (p : Pl), (N.map (·.1)).Nodup → ((laid N p t).map (·.1)).Nodup) t fun l ws ks ih N p h => ?_
  have hL : ∀ (ls : List T), (∀ k ∈ ls, ∀ (N : Nd) (p : Pl), (N.map (·.1)).Nodup → ((laid N p k).map (·.1)).Nodup) → ∀ (N : Nd) (p : Pl), (N.map (·.1)).Nodup → ((laidL N p ls).map (·.1)).Nodup := by
    intro ls
    induction ls with
    | nil => intro _ N p h; unfold laidL; exact h
    | cons k r ih2 =>
      intro hk N p h
      unfold laidL
      exact ih2 (fun x hx => hk x (List.mem_cons_of_mem _ hx)) _ p (hk k List.mem_cons_self N _ h)
  unfold laid
  exact hL ks ih _ p (put_nodup h)
/-- no node has more kids -/
inductive Wd (n : Nat) : T → Prop
  | mk {l : Str} {ws : List Str} {ks : List T} : ks.length ≤ n → (∀ k ∈ ks, Wd n k) → Wd n (.mk l ws ks)
theorem Wd.len {n : Nat} {t : T} (h : Wd n t) : t.kids.length ≤ n := by cases h with | mk a b => exact a
theorem Wd.kid {n : Nat} {t : T} (h : Wd n t) : ∀ k ∈ t.kids, Wd n k := by cases h with | mk a b => exact b
theorem Wd.mono {n m : Nat} (hm : n ≤ m) : ∀ t : T, Wd n t → Wd m t := fun t => by
  refine T.ind (P := fun t => Wd n t → Wd m t) t fun l ws ks ih h => ?_
  exact .mk (Nat.le_trans h.len hm) fun k hk => ih k hk (h.kid k hk)
theorem size_le {n : Nat} : ∀ (d : Nat) (t : T), Wd n t → t.deep ≤ d → t.size ≤ (n + 1) ^ d := by
  intro d
  induction d with
  | zero => intro t _ h; have := deep_pos t; omega
  | succ d ih =>
    intro t hw h
    obtain ⟨l, ws, ks⟩ := t
    have h1 : ∀ k ∈ ks, k.size ≤ (n + 1) ^ d := fun k hk => ih k (hw.kid k hk) (by have := deep_kid (t := .mk l ws ks) hk; omega)
    have h2 : ∀ ls : List T, (∀ k ∈ ls, k.size ≤ (n + 1) ^ d) → sizeL ls ≤ ls.length * (n + 1) ^ d := by
      intro ls
      induction ls with
      | nil => intro _; unfold sizeL; omega
      | cons k r ih2 =>
        intro hk
        have a1 := hk k List.mem_cons_self
        have a2 := ih2 fun x hx => hk x (List.mem_cons_of_mem _ hx)
        unfold sizeL
        rw [List.length_cons, Nat.add_mul, Nat.one_mul]
        omega
    have h3 := h2 ks h1
    have h4 : ks.length * (n + 1) ^ d ≤ n * (n + 1) ^ d := Nat.mul_le_mul_right _ hw.len
    have h5 : 1 ≤ (n + 1) ^ d := Nat.pow_pos (by omega)
    unfold T.size
    rw [Nat.pow_succ, Nat.mul_comm, Nat.add_mul, Nat.one_mul]
    omega
end Cm
end

section
/-! Changes of trees, and of tables. -/
namespace Cm
open PySem PySem.Spec

/-- f at the place -/
def chg (f : T → T) : T → Pl → T
  | t, [] => f t
  | t, a :: p => .mk t.lab t.wds (t.kids.map fun k => if k.lab = a then chg f k p else k)
theorem chg_cons (f : T → T) (t : T) (a : Str) (p : Pl) : chg f t (a :: p) = .mk t.lab t.wds (t.kids.map fun k => if k.lab = a then chg f k p else k) := by rw [chg]
def Keeps (f : T → T) : Prop := ∀ t, (f t).lab = t.lab
theorem chg_lab {f : T → T} (hf : Keeps f) : ∀ (t : T) (p : Pl), (chg f t p).lab = t.lab
  | t, [] => hf t
  | t, a :: p => by rw [chg_cons]; rfl
theorem chg_same {f g : T → T} : ∀ {t nd : T} {p : Pl}, Wf t → nodeAt t p = some nd → f nd = g nd → chg f t p = chg g t p
  | t, nd, [], _, e, h => by
    cases e
    exact h
  | t, nd, a :: p, w, e, h => by
    rw [chg_cons, chg_cons]
    congr 1
    refine List.map_congr_left fun k hk => ?_
    by_cases c : k.lab = a
    · rw [if_pos c, if_pos c]
      rw [nodeAt_cons, ← c, kidOf_mem w.ord hk] at e
      exact chg_same (w.kid k hk) e h
    · rw [if_neg c, if_neg c]
/-- the program puts the changed node in its place; the law changes on the way -/
theorem chg_const {f : T → T} {t nd : T} {p : Pl} (w : Wf t) (e : nodeAt t p = some nd) : chg (fun _ => f nd) t p = chg f t p := chg_same w e rfl
theorem kidOf_map {g : T → T} (hg : ∀ k, (g k).lab = k.lab) (ks : List T) (a : Str) : kidOf (ks.map g) a = (kidOf ks a).map g := by
  induction ks with
  | nil => rfl
  | cons k r ih =>
    unfold kidOf at ih ⊢
    rw [List.map_cons]
    by_cases c : k.lab = a
    · rw [List.find?_cons_of_pos (by rw [hg]; simpa using c), List.find?_cons_of_pos (by simpa using c)] <;> rfl
    · rw [List.find?_cons_of_neg (by rw [hg]; simpa using c), List.find?_cons_of_neg (by simpa using c), ih]
theorem step_lab {f : T → T} (hf : Keeps f) (a : Str) (p : Pl) (k : T) : (if k.lab = a then chg f k p else k).lab = k.lab := by
  split
  · exact chg_lab hf k p
  · rfl
theorem chg_in {f : T → T} (hf : Keeps f) : ∀ {t nd : T} {p : Pl} (q : Pl), nodeAt t p = some nd → nodeAt (chg f t p) (p ++ q) = nodeAt (f nd) q
  | t, nd, [], q, e => by
    cases e
    rfl
  | t, nd, a :: p, q, e => by
    rw [nodeAt_cons] at e
    cases c : kidOf t.kids a with
    | none => rw [c] at e; cases e
    | some k =>
      rw [c] at e
      rw [chg_cons, List.cons_append, nodeAt_cons]
      show ((kidOf (t.kids.map fun k => if k.lab = a then chg f k p else k) a).bind fun k => nodeAt k (p ++ q)) = _
      rw [kidOf_map (step_lab hf a p), c]
      show nodeAt (if k.lab = a then chg f k p else k) (p ++ q) = _
      rw [if_pos (kidOf_some c).2]
      exact chg_in hf q e
theorem chg_out {f : T → T} (hf : Keeps f) : ∀ {t : T} {p q : Pl}, (∀ r, q ≠ p ++ r) → (nodeAt (chg f t p) q).map T.wds = (nodeAt t q).map T.wds
  | t, [], q, h => absurd rfl (h q)
  | t, a :: p, [], h => by rw [chg_cons]; rfl
  | t, a :: p, b :: q, h => by
    rw [chg_cons, nodeAt_cons, nodeAt_cons]
    show ((kidOf (t.kids.map fun k => if k.lab = a then chg f k p else k) b).bind fun k => nodeAt k q).map T.wds = _
    rw [kidOf_map (step_lab hf a p)]
    cases c : kidOf t.kids b with
    | none => rfl
    | some k =>
      show (nodeAt (if k.lab = a then chg f k p else k) q).map T.wds = (nodeAt k q).map T.wds
      by_cases d : k.lab = a
      · rw [if_pos d]
        have e : b = a := (kidOf_some c).2.symm.trans d
        subst e
        exact chg_out hf fun r z => h r (by rw [z]; rfl)
      · rw [if_neg d]
theorem chg_wf {f : T → T} (hf : Keeps f) : ∀ {t nd : T} {p : Pl}, Wf t → nodeAt t p = some nd → Wf (f nd) → Wf (chg f t p)
  | t, nd, [], _, e, h => by
    cases e
    exact h
  | t, nd, a :: p, w, e, h => by
    have kid : ∀ k ∈ t.kids, k.lab = a → Wf (chg f k p) := fun k hk c => by
      rw [nodeAt_cons, ← c, kidOf_mem w.ord hk] at e
      exact chg_wf hf (w.kid k hk) e h
    rw [chg_cons]
    refine .mk (fun x hx => ?_) (fun x hx => ?_) ?_ w.wok
    · obtain ⟨k, hk, rfl⟩ := List.mem_map.mp hx
      by_cases c : k.lab = a
      · rw [if_pos c]; exact kid k hk c
      · rw [if_neg c]; exact w.kid k hk
    · obtain ⟨k, hk, rfl⟩ := List.mem_map.mp hx
      rw [step_lab hf]
      exact w.labs k hk
    · unfold Ord
      rw [List.pairwise_map]
      refine w.ord.imp fun {x y} h => ?_
      rw [step_lab hf, step_lab hf]
      exact h
theorem chg_wd {f : T → T} {n : Nat} : ∀ {t nd : T} {p : Pl}, Wf t → nodeAt t p = some nd → Wd n t → Wd n (f nd) → Wd n (chg f t p)
  | t, nd, [], _, e, _, h => by
    cases e
    exact h
  | t, nd, a :: p, w, e, wd, h => by
    rw [chg_cons]
    refine .mk (by rw [List.length_map]; exact wd.len) fun x hx => ?_
    obtain ⟨k, hk, rfl⟩ := List.mem_map.mp hx
    by_cases c : k.lab = a
    · rw [if_pos c]
      rw [nodeAt_cons, ← c, kidOf_mem w.ord hk] at e
      exact chg_wd (w.kid k hk) e (wd.kid k hk) h
    · rw [if_neg c]
      exact wd.kid k hk
theorem chg_deep {f : T → T} {n : Nat} : ∀ {t nd : T} {p : Pl}, Wf t → nodeAt t p = some nd → t.deep ≤ n → p.length + (f nd).deep ≤ n → (chg f t p).deep ≤ n
  | t, nd, [], _, e, _, h => by
    cases e
    rw [List.length_nil, Nat.zero_add] at h
    exact h
  | t, nd, a :: p, w, e, hd, h => by
    rw [chg_cons, T.deep_eq]
    cases n with
    | zero => have := deep_pos t; omega
    | succ n =>
      refine Nat.succ_le_succ (deepL_of fun x hx => ?_)
      obtain ⟨k, hk, rfl⟩ := List.mem_map.mp hx
      have dk := deep_kid hk
      by_cases c : k.lab = a
      · rw [if_pos c]
        rw [nodeAt_cons, ← c, kidOf_mem w.ord hk] at e
        rw [List.length_cons] at h
        exact chg_deep (w.kid k hk) e (by omega) (by omega)
      · rw [if_neg c]
        omega

/-! ### a kid comes in -/
def insK (ks : List T) (n : T) : List T := (ks.filter fun k => decide (klt (key k.lab) (key n.lab))) ++ ([n] ++ ks.drop (ks.filter fun k => decide (klt (key k.lab) (key n.lab))).length)
theorem filt_drop {n : T} : ∀ {ks : List T}, Ord ks → ks = (ks.filter fun k => decide (klt (key k.lab) (key n.lab))) ++ ks.drop (ks.filter fun k => decide (klt (key k.lab) (key n.lab))).length ∧
    ∀ k ∈ ks.drop (ks.filter fun k => decide (klt (key k.lab) (key n.lab))).length, ¬ klt (key k.lab) (key n.lab)
  | [], _ => ⟨rfl, fun k h => by cases h⟩
  | k :: r, h => by
    obtain ⟨h1, h2⟩ := List.pairwise_cons.mp h
    obtain ⟨i1, i2⟩ := filt_drop (n := n) h2
    by_cases c : klt (key k.lab) (key n.lab)
    · rw [List.filter_cons_of_pos (by simpa using c), List.length_cons, List.drop_succ_cons, List.cons_append]
      exact ⟨congrArg (List.cons k) i1, i2⟩
    · have e : (r.filter fun k => decide (klt (key k.lab) (key n.lab))) = [] := by
        rw [List.filter_eq_nil_iff]
        intro x hx z
        exact c (klt_trans (h1 x hx) (by simpa using z))
      rw [List.filter_cons_of_neg (by simpa using c), e]
      refine ⟨rfl, fun x hx => ?_⟩
      rcases List.mem_cons.mp hx with z | z
      · rw [z]; exact c
      · exact fun y => c (klt_trans (h1 x z) y)
theorem insK_mem {ks : List T} {n x : T} (h : Ord ks) : x ∈ insK ks n ↔ x = n ∨ x ∈ ks := by
  obtain ⟨e, _⟩ := filt_drop (n := n) h
  unfold insK
  have : x ∈ ks ↔ x ∈ (ks.filter fun k => decide (klt (key k.lab) (key n.lab))) ∨ x ∈ ks.drop (ks.filter fun k => decide (klt (key k.lab) (key n.lab))).length := by
    conv => lhs; rw [e]
    exact List.mem_append
  rw [this, List.mem_append, List.mem_append, List.mem_singleton]
  constructor
  · rintro (h | h | h)
    · exact .inr (.inl h)
    · exact .inl h
    · exact .inr (.inr h)
  · rintro (h | h | h)
    · exact .inr (.inl h)
    · exact .inl h
    · exact .inr (.inr h)
theorem insK_ord {ks : List T} {n : T} (h : Ord ks) (hl : ∀ k ∈ ks, IsLab k.lab) (hn : IsLab n.lab) (hno : ∀ k ∈ ks, k.lab ≠ n.lab) : Ord (insK ks n) := by
  obtain ⟨e, hd⟩ := filt_drop (n := n) h
  have big : ∀ k ∈ ks.drop (ks.filter fun k => decide (klt (key k.lab) (key n.lab))).length, klt (key n.lab) (key k.lab) := fun k hk => by
    have mk : k ∈ ks := List.mem_of_mem_drop hk
    rcases klt_tri (key k.lab) (key n.lab) with z | z | z
    · exact absurd z (hd k hk)
    · exact absurd (key_inj (hl k mk) hn z) (hno k mk)
    · exact z
  have small : ∀ k ∈ ks.filter fun k => decide (klt (key k.lab) (key n.lab)), klt (key k.lab) (key n.lab) := fun k hk => by simpa using (List.mem_filter.mp hk).2
  have h' := h
  unfold Ord at h'
  rw [e, List.pairwise_append] at h'
  unfold insK Ord
  rw [List.pairwise_append]
  refine ⟨h'.1, ?_, fun a ha b hb => ?_⟩
  · exact List.pairwise_cons.mpr ⟨fun b hb => big b hb, h'.2.1⟩
  · rcases List.mem_append.mp hb with z | z
    · rw [List.mem_singleton.mp z]; exact small a ha
    · exact h'.2.2 a ha b z
theorem insK_len {ks : List T} {n : T} (h : Ord ks) : (insK ks n).length = ks.length + 1 := by
  obtain ⟨e, _⟩ := filt_drop (n := n) h
  have := congrArg List.length e
  rw [List.length_append] at this
  unfold insK
  rw [List.length_append, List.length_append, List.length_singleton]
  omega
theorem kidOf_ord {ks : List T} (h : Ord ks) {a : Str} {k : T} : kidOf ks a = some k ↔ k ∈ ks ∧ k.lab = a := ⟨kidOf_some, fun ⟨h1, h2⟩ => by rw [← h2]; exact kidOf_mem h h1⟩
theorem kidOf_ins {ks : List T} {n : T} (h : Ord ks) (h' : Ord (insK ks n)) (hno : ∀ k ∈ ks, k.lab ≠ n.lab) (a : Str) : kidOf (insK ks n) a = if n.lab = a then some n else kidOf ks a := by
  by_cases c : n.lab = a
  · rw [if_pos c]
    exact (kidOf_ord h').mpr ⟨(insK_mem h).mpr (.inl rfl), c⟩
  · rw [if_neg c]
    cases e : kidOf ks a with
    | some k =>
      obtain ⟨h1, h2⟩ := kidOf_some e
      exact (kidOf_ord h').mpr ⟨(insK_mem h).mpr (.inr h1), h2⟩
    | none =>
      refine kidOf_none.mpr fun k hk => ?_
      rcases (insK_mem h).mp hk with z | z
      · rw [z]; exact c
      · exact kidOf_none.mp e k z
/-- any rising arrangement of the kids and the new one is that one -/
theorem insK_only {ks ls : List T} {n : T} (h : Ord ks) (hl : ∀ k ∈ ks, IsLab k.lab) (hn : IsLab n.lab) (hno : ∀ k ∈ ks, k.lab ≠ n.lab) (hp : ls.Perm (ks ++ [n])) (ho : ls.Pairwise fun a b => ¬ klt (key b.lab) (key a.lab)) : ls = insK ks n := by
  have hi := insK_ord h hl hn hno
  have mem : ∀ x, x ∈ ls ↔ x ∈ insK ks n := fun x => by
    rw [hp.mem_iff, insK_mem h, List.mem_append, List.mem_singleton]
    exact ⟨fun z => z.symm, fun z => z.symm⟩
  have lab1 : ∀ k ∈ insK ks n, IsLab k.lab := fun k hk => ((insK_mem h).mp hk).elim (fun z => by rw [z]; exact hn) (hl k)
  have nd : (ls.map T.lab).Nodup := by
    have e : ((ks ++ [n]).map T.lab).Nodup := by
      rw [List.map_append]
      refine List.nodup_append.mpr ⟨?_, by simp, fun a ha b hb e => ?_⟩
      · unfold List.Nodup
        rw [List.pairwise_map]
        refine h.imp fun {x y} q z => ?_
        rw [z] at q
        exact klt_irrefl _ q
      · obtain ⟨k, hk, rfl⟩ := List.mem_map.mp ha
        obtain ⟨k', hk', rfl⟩ := List.mem_map.mp hb
        rw [List.mem_singleton.mp hk'] at e
        exact hno k hk e
    exact (hp.map T.lab).nodup_iff.mpr e
  have ord : Ord ls := by
    have h1 : ls.Pairwise fun a b => a.lab ≠ b.lab := by
      unfold List.Nodup at nd
      rw [List.pairwise_map] at nd
      exact nd
    have h2 : ls.Pairwise fun a b => (¬ klt (key b.lab) (key a.lab)) ∧ a.lab ≠ b.lab := ho.and h1
    refine h2.imp_of_mem fun {x y} hx hy q => ?_
    rcases klt_tri (key x.lab) (key y.lab) with z | z | z
    · exact z
    · exact absurd (key_inj (lab1 x ((mem x).mp hx)) (lab1 y ((mem y).mp hy)) z) q.2
    · exact absurd z q.1
  refine ord_same ord hi (fun k hk => lab1 k ((mem k).mp hk)) lab1 (fun a => ?_) fun k hk l hl e => hi.inj k ((mem k).mp hk) l hl e
  cases e : kidOf (insK ks n) a with
  | some k =>
    obtain ⟨h1, h2⟩ := kidOf_some e
    rw [(kidOf_ord ord).mpr ⟨(mem k).mpr h1, h2⟩]
  | none =>
    rw [kidOf_none.mpr fun k hk => kidOf_none.mp e k ((mem k).mp hk)]

/-! ### the three changes -/
def fRead (ws : List Str) (t : T) : T := .mk t.lab ws t.kids
def fPut (n : T) (t : T) : T := .mk t.lab t.wds (insK t.kids n)
def fOut (a : Str) (t : T) : T := .mk t.lab t.wds (t.kids.filter fun k => decide (k.lab ≠ a))
theorem kRead {ws : List Str} : Keeps (fRead ws) := fun _ => rfl
theorem kPut {n : T} : Keeps (fPut n) := fun _ => rfl
theorem kOut {a : Str} : Keeps (fOut a) := fun _ => rfl

def Rep (N : Nd) (t : T) : Prop := ∀ p, lk N p = (nodeAt t p).map T.wds
theorem Rep.some {N : Nd} {t : T} (h : Rep N t) {p : Pl} : (lk N p).isSome = (nodeAt t p).isSome := by rw [h p, Option.isSome_map]
theorem app_of {p q : Pl} : (∃ r, q = p ++ r) ∨ ∀ r, q ≠ p ++ r := by
  by_cases h : ∃ r, q = p ++ r
  · exact .inl h
  · exact .inr fun r e => h ⟨r, e⟩
theorem rep_read {N : Nd} {t nd : T} {p : Pl} {ws : List Str} (h : Rep N t) (e : nodeAt t p = some nd) : Rep (put N p ws) (chg (fRead ws) t p) := fun q => by
  rw [lk_put]
  rcases app_of (p := p) (q := q) with ⟨r, rfl⟩ | hq
  · rw [chg_in kRead r e]
    cases r with
    | nil =>
      rw [if_pos (List.append_nil p)]
      rfl
    | cons a r =>
      rw [if_neg (fun z => by have := congrArg List.length z; rw [List.length_append, List.length_cons] at this; omega), h, nodeAt_app, e]
      rfl
  · rw [if_neg fun z => hq [] (by rw [List.append_nil]; exact z), h, chg_out kRead hq]
theorem wf_read {ws : List Str} {nd : T} (h : Wf nd) (hw : ∀ w ∈ ws, PyData.strOk w = true) : Wf (fRead ws nd) := .mk h.kid h.labs h.ord hw
theorem rep_put {N : Nd} {t nd n : T} {p : Pl} (w : Wf t) (h : Rep N t) (e : nodeAt t p = some nd) (hn : Wf n) (hl : IsLab n.lab) (hno : kidOf nd.kids n.lab = none) : Rep (laid N (p ++ [n.lab]) n) (chg (fPut n) t p) := fun q => by
  have wn := nodeAt_wf w e
  have hno' := kidOf_none.mp hno
  have ho := insK_ord wn.ord wn.labs hl hno'
  obtain ⟨l1, l2⟩ := laid_at n hn N (p ++ [n.lab])
  rcases app_of (p := p) (q := q) with ⟨r, rfl⟩ | hq
  · rw [chg_in kPut r e]
    cases r with
    | nil =>
      rw [l2 _ (fun s z => by have := congrArg List.length z; rw [List.length_append, List.length_append, List.length_append] at this; simp at this; omega), h, nodeAt_app, e]
      rfl
    | cons a r =>
      rw [nodeAt_cons]
      show _ = ((kidOf (insK nd.kids n) a).bind fun k => nodeAt k r).map T.wds
      rw [kidOf_ins wn.ord ho hno']
      by_cases c : n.lab = a
      · subst c
        rw [if_pos rfl, app_one p n.lab r, l1, h, ← app_one, nodeAt_app, e]
        show orE ((nodeAt n r).map T.wds) ((nodeAt nd (n.lab :: r)).map T.wds) = (nodeAt n r).map T.wds
        rw [nodeAt_cons, hno]
        cases nodeAt n r <;> rfl
      · rw [if_neg c, l2 _ (fun s => app_ne fun z => c z.symm), h, nodeAt_app, e]
        show (nodeAt nd (a :: r)).map T.wds = _
        rw [nodeAt_cons]
  · rw [l2 q (fun s z => hq (n.lab :: s) (by rw [z, ← app_one])), h, chg_out kPut hq]
theorem wf_put {nd n : T} (h : Wf nd) (hn : Wf n) (hl : IsLab n.lab) (hno : kidOf nd.kids n.lab = none) : Wf (fPut n nd) := by
  have hno' := kidOf_none.mp hno
  refine .mk (fun k hk => ?_) (fun k hk => ?_) (insK_ord h.ord h.labs hl hno') h.wok
  · exact ((insK_mem h.ord).mp hk).elim (fun z => by rw [z]; exact hn) (h.kid k)
  · exact ((insK_mem h.ord).mp hk).elim (fun z => by rw [z]; exact hl) (h.labs k)
theorem wd_put {nd n : T} {m : Nat} (w : Wf nd) (h : Wd m nd) (hn : Wd (m + 1) n) : Wd (m + 1) (fPut n nd) := by
  refine .mk ?_ fun k hk => ?_
  · rw [insK_len w.ord]
    exact Nat.succ_le_succ h.len
  · exact ((insK_mem w.ord).mp hk).elim (fun z => by rw [z]; exact hn) fun z => Wd.mono (Nat.le_succ m) k (h.kid k z)
theorem deep_put {nd n : T} (w : Wf nd) : (fPut n nd).deep ≤ max nd.deep (n.deep + 1) := by
  rw [T.deep_eq]
  have h : deepL (insK nd.kids n) ≤ max (deepL nd.kids) n.deep := deepL_of fun k hk => by
    rcases (insK_mem w.ord).mp hk with z | z
    · rw [z]; exact Nat.le_max_right _ _
    · exact Nat.le_trans (deepL_le z) (Nat.le_max_left _ _)
  have h2 := nd.deep_eq
  show deepL (insK nd.kids n) + 1 ≤ _
  omega
def gone (N : Nd) (p : Pl) : Nd := N.filter fun e => decide (e.1.take p.length ≠ p)
theorem lk_gone (N : Nd) (p q : Pl) : lk (gone N p) q = if q.take p.length = p then none else lk N q := by
  unfold gone
  induction N with
  | nil => split <;> rfl
  | cons e N ih =>
    by_cases c : e.1.take p.length = p
    · rw [List.filter_cons_of_neg (by simpa using c), ih, lk_cons]
      by_cases d : q.take p.length = p
      · rw [if_pos d, if_pos d]
      · rw [if_neg d, if_neg d, if_neg fun z => d (by rw [← z]; exact c)]
    · rw [List.filter_cons_of_pos (by simpa using c), lk_cons, lk_cons, ih]
      by_cases d : e.1 = q
      · rw [if_pos d, if_pos d, if_neg (by rw [← d]; exact c)]
      · rw [if_neg d, if_neg d]
theorem take_iff {p q : Pl} : q.take p.length = p ↔ ∃ r, q = p ++ r := by
  constructor
  · intro h
    exact ⟨q.drop p.length, by conv => lhs; rw [← List.take_append_drop p.length q, h]⟩
  · rintro ⟨r, rfl⟩
    rw [List.take_left']
    rfl
theorem kidOf_out {ks : List T} (a b : Str) : kidOf (ks.filter fun k => decide (k.lab ≠ a)) b = if b = a then none else kidOf ks b := by
  induction ks with
  | nil => split <;> rfl
  | cons k r ih =>
    unfold kidOf at ih ⊢
    by_cases c : k.lab = a
    · rw [List.filter_cons_of_neg (by simpa using c), ih]
      by_cases d : b = a
      · rw [if_pos d, if_pos d]
      · rw [if_neg d, if_neg d, List.find?_cons_of_neg (by simp; exact fun z => d (z.symm.trans c))]
    · rw [List.filter_cons_of_pos (by simpa using c)]
      by_cases d : k.lab = b
      · rw [List.find?_cons_of_pos (by simpa using d), if_neg fun z => c (d.trans z), List.find?_cons_of_pos (by simpa using d)]
      · rw [List.find?_cons_of_neg (by simpa using d), ih, List.find?_cons_of_neg (by simpa using d)]
theorem rep_out {N : Nd} {t nd : T} {p : Pl} {a : Str} (h : Rep N t) (e : nodeAt t p = some nd) : Rep (gone N (p ++ [a])) (chg (fOut a) t p) := fun q => by
  rw [lk_gone]
  rcases app_of (p := p) (q := q) with ⟨r, rfl⟩ | hq
  · rw [chg_in kOut r e]
    cases r with
    | nil =>
      rw [if_neg (fun z => by obtain ⟨r, z⟩ := take_iff.mp z; have := congrArg List.length z; simp at this), h, nodeAt_app, e]
      rfl
    | cons b r =>
      rw [nodeAt_cons]
      show _ = ((kidOf (nd.kids.filter fun k => decide (k.lab ≠ a)) b).bind fun k => nodeAt k r).map T.wds
      rw [kidOf_out]
      by_cases c : b = a
      · subst c
        rw [if_pos (take_iff.mpr ⟨r, app_one p b r⟩), if_pos rfl]
        rfl
      · rw [if_neg (fun z => by obtain ⟨s, z⟩ := take_iff.mp z; exact app_ne c z), if_neg c, h, nodeAt_app, e]
        show (nodeAt nd (b :: r)).map T.wds = _
        rw [nodeAt_cons]
  · rw [if_neg (fun z => by obtain ⟨r, z⟩ := take_iff.mp z; exact hq (a :: r) (by rw [z, ← app_one])), h, chg_out kOut hq]
theorem wf_out {a : Str} {nd : T} (h : Wf nd) : Wf (fOut a nd) :=
  .mk (fun k hk => h.kid k (List.mem_filter.mp hk).1) (fun k hk => h.labs k (List.mem_filter.mp hk).1) (h.ord.sublist List.filter_sublist) h.wok
theorem wd_out {a : Str} {nd : T} {m : Nat} (h : Wd m nd) : Wd m (fOut a nd) :=
  .mk (Nat.le_trans (List.length_filter_le _ _) h.len) fun k hk => h.kid k (List.mem_filter.mp hk).1
theorem deep_out {a : Str} {nd : T} : (fOut a nd).deep ≤ nd.deep := by
  rw [T.deep_eq, nd.deep_eq]
  exact Nat.succ_le_succ (deepL_of fun k hk => deepL_le (List.mem_filter.mp hk).1)
theorem wd_read {ws : List Str} {nd : T} {m : Nat} (h : Wd m nd) : Wd m (fRead ws nd) := .mk h.len h.kid
theorem deep_read {ws : List Str} {nd : T} : (fRead ws nd).deep = nd.deep := by rw [T.deep_eq, nd.deep_eq]; rfl
end Cm
end

section
/-! From tables to trees; the draws. -/
namespace Cm
open PySem PySem.Spec

def keys (N : Nd) : List Pl := N.map (·.1)
def lastLab (p : Pl) : Str := match p.getLast? with | some a => a | none => Str.empty
theorem lastLab_app (p : Pl) (a : Str) : lastLab (p ++ [a]) = a := by unfold lastLab; rw [List.getLast?_concat]
theorem lastLab_nil : lastLab [] = Str.empty := rfl
/-- a table that tells a tree -/
structure WfN (N : Nd) : Prop where
  nd : (keys N).Nodup
  root : [] ∈ keys N
  pre : ∀ p a, p ++ [a] ∈ keys N → p ∈ keys N
  len : ∀ p ∈ keys N, p.length ≤ 8
  labs : ∀ p ∈ keys N, ∀ a ∈ p, IsLab a
  wok : ∀ e ∈ N, ∀ w ∈ e.2, PyData.strOk w = true
theorem WfN.up {N : Nd} (W : WfN N) (p : Pl) : ∀ r : Pl, p ++ r ∈ keys N → p ∈ keys N := fun r => by
  induction r generalizing p with
  | nil => intro h; rw [List.append_nil] at h; exact h
  | cons a r ih =>
    intro h
    rw [app_one] at h
    exact W.pre p a (ih (p ++ [a]) h)
def isKid (p o : Pl) : Bool := decide (o.length = p.length + 1) && decide (o.dropLast = p)
theorem isKid_iff {p o : Pl} : isKid p o = true ↔ o = p ++ [lastLab o] := by
  unfold isKid
  rw [Bool.and_eq_true, decide_eq_true_eq, decide_eq_true_eq]
  constructor
  · rintro ⟨h1, h2⟩
    have hne : o ≠ [] := fun z => by rw [z] at h1; simp at h1
    have e := List.dropLast_concat_getLast hne
    have e2 : lastLab o = o.getLast hne := by unfold lastLab; rw [List.getLast?_eq_some_getLast hne]
    rw [e2]
    conv => lhs; rw [← e, h2]
  · intro h
    generalize lastLab o = a at h
    subst h
    simp
structure TreeOf (n : Nat) (N : Nd) (p : Pl) (t : T) : Prop where
  rep : ∀ q, lk N (p ++ q) = (nodeAt t q).map T.wds
  wf : Wf t
  lab : t.lab = lastLab p
  wd : Wd n t
theorem paired_mem {α β : Type} {F : α → β → Prop} : ∀ {l : List α} {m : List β}, Paired F l m → (∀ a ∈ l, ∃ b ∈ m, F a b) ∧ ∀ b ∈ m, ∃ a ∈ l, F a b
  | _, _, .nil => ⟨fun a h => (by cases h), fun a h => (by cases h)⟩
  | _, _, .cons (a := a) (b := b) h t => by
    obtain ⟨i1, i2⟩ := paired_mem t
    refine ⟨fun x hx => ?_, fun x hx => ?_⟩
    · rcases List.mem_cons.mp hx with z | z
      · exact ⟨b, List.mem_cons_self, by rw [z]; exact h⟩
      · obtain ⟨y, hy, r⟩ := i1 x z
        exact ⟨y, List.mem_cons_of_mem _ hy, r⟩
    · rcases List.mem_cons.mp hx with z | z
      · exact ⟨a, List.mem_cons_self, by rw [z]; exact h⟩
      · obtain ⟨y, hy, r⟩ := i2 x z
        exact ⟨y, List.mem_cons_of_mem _ hy, r⟩
theorem paired_map {α β γ : Type} {F : α → β → Prop} {f : α → γ} {g : β → γ} (h : ∀ a b, F a b → f a = g b) : ∀ {l : List α} {m : List β}, Paired F l m → l.map f = m.map g
  | _, _, .nil => rfl
  | _, _, .cons r t => by rw [List.map_cons, List.map_cons, h _ _ r, paired_map h t]
theorem tree_step {n : Nat} {N : Nd} {p : Pl} {ws : List Str} {cs : List Pl} {ts : List T} (W : WfN N) (hp : lk N p = some ws) (hc : cs.Perm ((keys N).filter (isKid p)))
    (hs : cs.Pairwise fun a b => ¬ klt (key (lastLab b)) (key (lastLab a))) (ht : Paired (TreeOf n N) cs ts) (hn : N.length ≤ n) : TreeOf n N p (.mk (lastLab p) ws ts) := by
  have mem : ∀ c, c ∈ cs ↔ c ∈ keys N ∧ c = p ++ [lastLab c] := fun c => by rw [hc.mem_iff, List.mem_filter, isKid_iff]
  have cnd : cs.Nodup := hc.nodup_iff.mpr (W.nd.filter _)
  have el : cs.map lastLab = ts.map T.lab := paired_map (fun a b h => h.lab.symm) ht
  obtain ⟨m1, m2⟩ := paired_mem ht
  have clab : ∀ c ∈ cs, IsLab (lastLab c) := fun c hc => by
    obtain ⟨h1, h2⟩ := (mem c).mp hc
    exact W.labs c h1 _ (by rw [h2, lastLab_app]; exact List.mem_append_right _ List.mem_cons_self)
  have ord : Ord ts := by
    have h1 : cs.Pairwise fun a b => klt (key (lastLab a)) (key (lastLab b)) := by
      have h2 : cs.Pairwise fun a b => (¬ klt (key (lastLab b)) (key (lastLab a))) ∧ a ≠ b := hs.and cnd
      refine h2.imp_of_mem fun {x y} hx hy q => ?_
      rcases klt_tri (key (lastLab x)) (key (lastLab y)) with z | z | z
      · exact z
      · refine absurd ?_ q.2
        rw [((mem x).mp hx).2, ((mem y).mp hy).2, key_inj (clab x hx) (clab y hy) z]
      · exact absurd z q.1
    have h2 : (cs.map lastLab).Pairwise fun a b => klt (key a) (key b) := by rw [List.pairwise_map]; exact h1
    rw [el, List.pairwise_map] at h2
    exact h2
  have wts : ∀ w ∈ ws, PyData.strOk w = true := W.wok _ (lk_in hp)
  refine ⟨fun q => ?_, .mk (fun k hk => ?_) (fun k hk => ?_) ord wts, rfl, .mk ?_ fun k hk => ?_⟩
  · cases q with
    | nil => rw [List.append_nil]; exact hp
    | cons a r =>
      rw [nodeAt_cons]
      show _ = ((kidOf ts a).bind fun k => nodeAt k r).map T.wds
      cases e : kidOf ts a with
      | some k =>
        obtain ⟨h1, h2⟩ := kidOf_some e
        obtain ⟨c, hc, h⟩ := m2 k h1
        have ec : c = p ++ [a] := by
          have := ((mem c).mp hc).2
          rw [← h.lab, h2] at this
          exact this
        rw [app_one, ← ec, h.rep]
        rfl
      | none =>
        show _ = none
        cases q : lk N (p ++ a :: r) with
        | none => rfl
        | some x =>
          have k1 : p ++ a :: r ∈ keys N := lk_mem.mp (by rw [q]; rfl)
          rw [app_one] at k1
          have k2 := W.up (p ++ [a]) r k1
          obtain ⟨t, ht, h⟩ := m1 (p ++ [a]) ((mem _).mpr ⟨k2, by rw [lastLab_app]⟩)
          exact absurd (by rw [h.lab, lastLab_app]) (kidOf_none.mp e t ht)
  · obtain ⟨c, _, h⟩ := m2 k hk
    exact h.wf
  · obtain ⟨c, hc, h⟩ := m2 k hk
    rw [h.lab]
    exact clab c hc
  · have h1 := ht.length
    have h2 := hc.length_eq
    have h3 := List.length_filter_le (isKid p) (keys N)
    have h4 : (keys N).length = N.length := List.length_map _
    omega
  · obtain ⟨c, _, h⟩ := m2 k hk
    exact h.wd
theorem deep_path : ∀ t : T, Wf t → ∃ q n, nodeAt t q = some n ∧ q.length + 1 = t.deep := fun t => by
  refine T.ind (P := fun t => Wf t → ∃ q n, nodeAt t q = some n ∧ q.length + 1 = t.deep) t fun l ws ks ih h => ?_
  have max : ∀ ls : List T, ls ≠ [] → ∃ k ∈ ls, k.deep = deepL ls := by
    intro ls
    induction ls with
    | nil => intro z; exact absurd rfl z
    | cons a r ih2 =>
      intro _
      by_cases c : deepL r ≤ a.deep
      · exact ⟨a, List.mem_cons_self, by unfold deepL; omega⟩
      · have hr : r ≠ [] := fun z => by rw [z] at c; unfold deepL at c; omega
        obtain ⟨k, hk, e⟩ := ih2 hr
        exact ⟨k, List.mem_cons_of_mem _ hk, by conv => rhs; unfold deepL
                                                omega⟩
  by_cases hk : ks = []
  · subst hk
    exact ⟨[], _, rfl, by rw [T.deep_eq]; rfl⟩
  · obtain ⟨k, hm, e⟩ := max ks hk
    obtain ⟨q, n, h1, h2⟩ := ih k hm (h.kid k hm)
    refine ⟨k.lab :: q, n, ?_, ?_⟩
    · rw [nodeAt_cons]
      show ((kidOf ks k.lab).bind fun k => nodeAt k q) = _
      rw [kidOf_mem (show Ord ks from h.ord) hm]
      exact h1
    · rw [T.deep_eq, List.length_cons, h2, e] <;> rfl
theorem treeOf_deep {n : Nat} {N : Nd} {p : Pl} {t : T} (W : WfN N) (h : TreeOf n N p t) : t.deep + p.length ≤ 9 := by
  obtain ⟨q, m, h1, h2⟩ := deep_path t h.wf
  have h3 : p ++ q ∈ keys N := lk_mem.mp (by rw [h.rep, h1]; rfl)
  have h4 := W.len _ h3
  rw [List.length_append] at h4
  omega

/-! ### the draws -/
inductive Dr where
  | read (p : Pl) (ws : List Str)
  | put (p : Pl) (n : T)
  | out (p : Pl)
def Dr.pl : Dr → Pl
  | .read p _ => p
  | .put p _ => p
  | .out p => p
def PlOk (p : Pl) : Prop := p.length ≤ 8 ∧ ∀ a ∈ p, IsLab a
def WsOk (ws : List Str) : Prop := ∀ w ∈ ws, PyData.strOk w = true
structure NdOk (n : T) : Prop where
  wf : Wf n
  lab : IsLab n.lab
  deep : n.deep ≤ 8
  wd : Wd 6 n
  size : n.size ≤ 1000
def Dr.Ok : Dr → Prop
  | .read p ws => PlOk p ∧ WsOk ws
  | .put p n => PlOk p ∧ NdOk n
  | .out p => PlOk p
theorem Dr.Ok.pl {d : Dr} (h : d.Ok) : PlOk d.pl := by
  cases d with
  | read p ws => exact h.1
  | put p n => exact h.1
  | out p => exact h
inductive Why where
  | fits | place | there | deep | whole
  deriving DecidableEq
def whyT (t : T) : Dr → Why
  | .read p _ => if (nodeAt t p).isSome then .fits else .place
  | .put p n => match nodeAt t p with
    | none => .place
    | some nd => if (kidOf nd.kids n.lab).isSome then .there else if p.length + 1 + n.deep > 9 then .deep else .fits
  | .out p => if p = [] then .whole else if (nodeAt t p).isSome then .fits else .place
def whyN (N : Nd) : Dr → Why
  | .read p _ => if (lk N p).isSome then .fits else .place
  | .put p n => if (lk N p).isSome then if (lk N (p ++ [n.lab])).isSome then .there else if p.length + 1 + n.deep > 9 then .deep else .fits else .place
  | .out p => if p = [] then .whole else if (lk N p).isSome then .fits else .place
theorem whyT_read (t : T) (p : Pl) (ws : List Str) : whyT t (.read p ws) = if (nodeAt t p).isSome then Why.fits else Why.place := rfl
theorem whyT_out (t : T) (p : Pl) : whyT t (.out p) = if p = [] then Why.whole else if (nodeAt t p).isSome then Why.fits else Why.place := rfl
theorem whyT_put (t : T) (p : Pl) (n : T) : whyT t (.put p n) = match nodeAt t p with
      | none => Why.place
      | some nd => if (kidOf nd.kids n.lab).isSome then Why.there else if p.length + 1 + n.deep > 9 then Why.deep else Why.fits := rfl
theorem why_same {N : Nd} {t : T} (h : Rep N t) : ∀ d : Dr, whyN N d = whyT t d
  | .read p ws => by
    show (if (lk N p).isSome then Why.fits else Why.place) = if (nodeAt t p).isSome then Why.fits else Why.place
    rw [h.some]
  | .out p => by
    show (if p = [] then Why.whole else if (lk N p).isSome then Why.fits else Why.place) = if p = [] then Why.whole else if (nodeAt t p).isSome then Why.fits else Why.place
    rw [h.some]
  | .put p n => by
    show (if (lk N p).isSome then if (lk N (p ++ [n.lab])).isSome then Why.there else if p.length + 1 + n.deep > 9 then Why.deep else Why.fits else Why.place) = match nodeAt t p with
      | none => Why.place
      | some nd => if (kidOf nd.kids n.lab).isSome then Why.there else if p.length + 1 + n.deep > 9 then Why.deep else Why.fits
    rw [h.some, h.some, nodeAt_app]
    cases nodeAt t p with
    | none => rfl
    | some nd =>
      have e : ((some nd).bind fun k => nodeAt k [n.lab]).isSome = (kidOf nd.kids n.lab).isSome := by
        show (nodeAt nd [n.lab]).isSome = _
        rw [nodeAt_cons]
        cases kidOf nd.kids n.lab <;> rfl
      simp only [e, Option.isSome_some, if_true]
def resT (t : T) : Dr → T
  | .read p ws => chg (fRead ws) t p
  | .put p n => chg (fPut n) t p
  | .out p => chg (fOut (lastLab p)) t p.dropLast
def noted (N : Nd) : Dr → Nd
  | .read p ws => put N p ws
  | .put p n => laid N (p ++ [n.lab]) n
  | .out p => gone N p
structure Stn (k : Nat) (N : Nd) (t : T) : Prop where
  rep : Rep N t
  wf : Wf t
  lab : t.lab = Str.empty
  deep : t.deep ≤ 9
  wd : Wd (30 + k) t
  len : N.length ≤ 30 + 1000 * k
  nd : (keys N).Nodup
theorem Stn.mono {k j : Nat} {N : Nd} {t : T} (h : Stn k N t) (hj : k ≤ j) : Stn j N t := ⟨h.rep, h.wf, h.lab, h.deep, Wd.mono (by omega) _ h.wd, by have := h.len; omega, h.nd⟩
theorem why_put {t nd n : T} {p : Pl} (e : nodeAt t p = some nd) (h : whyT t (.put p n) = .fits) : kidOf nd.kids n.lab = none ∧ p.length + 1 + n.deep ≤ 9 := by
  rw [whyT_put, e] at h
  simp only at h
  cases c : kidOf nd.kids n.lab with
  | some k => rw [c] at h; simp at h
  | none =>
    refine ⟨rfl, ?_⟩
    rw [c] at h
    by_cases d : p.length + 1 + n.deep > 9
    · rw [if_neg (by simp), if_pos d] at h
      cases h
    · omega
theorem why_node {t : T} {d : Dr} (h : whyT t d = .fits) : ∃ nd, nodeAt t d.pl = some nd := by
  cases d with
  | read p ws =>
    rw [whyT_read] at h
    by_cases c : (nodeAt t p).isSome = true
    · exact Option.isSome_iff_exists.mp c
    · rw [if_neg c] at h; cases h
  | put p n =>
    rw [whyT_put] at h
    cases c : nodeAt t p with
    | none => rw [c] at h; cases h
    | some nd => exact ⟨nd, c⟩
  | out p =>
    rw [whyT_out] at h
    by_cases c0 : p = []
    · rw [if_pos c0] at h; cases h
    · rw [if_neg c0] at h
      by_cases c : (nodeAt t p).isSome = true
      · exact Option.isSome_iff_exists.mp c
      · rw [if_neg c] at h; cases h
theorem why_out {t : T} {p : Pl} (h : whyT t (.out p) = .fits) : p ≠ [] ∧ ∃ up, nodeAt t p.dropLast = some up ∧ p = p.dropLast ++ [lastLab p] := by
  have hp : p ≠ [] := fun z => by
    rw [whyT_out, if_pos z] at h
    cases h
  obtain ⟨nd, e⟩ := why_node h
  have e2 : p = p.dropLast ++ [lastLab p] := by
    have e3 := List.dropLast_concat_getLast hp
    have e4 : lastLab p = p.getLast hp := by unfold lastLab; rw [List.getLast?_eq_some_getLast hp]
    rw [e4]
    exact e3.symm
  refine ⟨hp, ?_⟩
  have e' : nodeAt t p = some nd := e
  rw [e2, nodeAt_app] at e'
  cases c : nodeAt t p.dropLast with
  | none => rw [c] at e'; cases e'
  | some up => exact ⟨up, rfl, e2⟩
theorem stn_step {k : Nat} {N : Nd} {t : T} {d : Dr} (S : Stn k N t) (ok : d.Ok) (h : whyT t d = .fits) : Stn (k + 1) (noted N d) (resT t d) := by
  obtain ⟨nd, e⟩ := why_node h
  have lenk := S.len
  cases d with
  | read p ws =>
    have e : nodeAt t p = some nd := e
    refine ⟨rep_read S.rep e, chg_wf kRead S.wf e (wf_read (nodeAt_wf S.wf e) ok.2), (chg_lab kRead t p).trans S.lab, chg_deep S.wf e S.deep ?_, Wd.mono (by omega) _ (chg_wd (n := 30 + k) S.wf e S.wd ?_), ?_, put_nodup S.nd⟩
    · rw [deep_read]; exact Nat.le_trans (nodeAt_deep e) S.deep
    · exact wd_read (by
        have : ∀ {t nd : T} {p : Pl}, Wd (30 + k) t → nodeAt t p = some nd → Wd (30 + k) nd := fun {t nd p} h e => by
          induction p generalizing t with
          | nil => cases e; exact h
          | cons a p ih =>
            rw [nodeAt_cons] at e
            cases q : kidOf t.kids a with
            | none => rw [q] at e; cases e
            | some x => rw [q] at e; exact ih (h.kid x (kidOf_some q).1) e
        exact this S.wd e)
    · have := put_len N p ws
      show (put N p ws).length ≤ _
      omega
  | put p n =>
    have e : nodeAt t p = some nd := e
    obtain ⟨h1, h2⟩ := why_put e h
    have wn := nodeAt_wf S.wf e
    have wdn : ∀ {t nd : T} {p : Pl}, Wd (30 + k) t → nodeAt t p = some nd → Wd (30 + k) nd := fun {t nd p} h e => by
      induction p generalizing t with
      | nil => cases e; exact h
      | cons a p ih =>
        rw [nodeAt_cons] at e
        cases q : kidOf t.kids a with
        | none => rw [q] at e; cases e
        | some x => rw [q] at e; exact ih (h.kid x (kidOf_some q).1) e
    refine ⟨rep_put S.wf S.rep e ok.2.wf ok.2.lab h1, chg_wf kPut S.wf e (wf_put wn ok.2.wf ok.2.lab h1), (chg_lab kPut t p).trans S.lab, chg_deep S.wf e S.deep ?_, chg_wd (n := 30 + k + 1) S.wf e (Wd.mono (by omega) _ S.wd) (wd_put wn (wdn S.wd e) (Wd.mono (by omega) _ ok.2.wd)), ?_, laid_nodup n N _ S.nd⟩
    · have d1 := deep_put (n := n) wn
      have d2 := nodeAt_deep e
      have d3 := S.deep
      omega
    · have := laid_len n N (p ++ [n.lab])
      have := ok.2.size
      show (laid N (p ++ [n.lab]) n).length ≤ _
      omega
  | out p =>
    obtain ⟨hp, up, e1, e2⟩ := why_out h
    have wn := nodeAt_wf S.wf e1
    have wdn : ∀ {t nd : T} {p : Pl}, Wd (30 + k) t → nodeAt t p = some nd → Wd (30 + k) nd := fun {t nd p} h e => by
      induction p generalizing t with
      | nil => cases e; exact h
      | cons a p ih =>
        rw [nodeAt_cons] at e
        cases q : kidOf t.kids a with
        | none => rw [q] at e; cases e
        | some x => rw [q] at e; exact ih (h.kid x (kidOf_some q).1) e
    refine ⟨?_, chg_wf kOut S.wf e1 (wf_out wn), (chg_lab kOut t _).trans S.lab, chg_deep S.wf e1 S.deep ?_, Wd.mono (by omega) _ (chg_wd (n := 30 + k) S.wf e1 S.wd (wd_out (wdn S.wd e1))), ?_, ?_⟩
    · have r := rep_out (p := p.dropLast) (a := lastLab p) S.rep e1
      rw [← e2] at r
      exact r
    · have d1 := deep_out (a := lastLab p) (nd := up)
      have d2 := nodeAt_deep e1
      have d3 := S.deep
      omega
    · have : (gone N p).length ≤ N.length := List.length_filter_le _ _
      show (gone N p).length ≤ _
      omega
    · exact S.nd.sublist ((List.filter_sublist).map _)
theorem Rep.wfN {k : Nat} {N : Nd} {t : T} (S : Stn k N t) : WfN N where
  nd := S.nd
  root := lk_mem.mp (by rw [S.rep.some]; rfl)
  pre := fun p a h => by
    have h1 : (lk N (p ++ [a])).isSome = true := lk_mem.mpr h
    rw [S.rep.some, nodeAt_app] at h1
    refine lk_mem.mp ?_
    rw [S.rep.some]
    cases e : nodeAt t p with
    | none => rw [e] at h1; exact h1
    | some x => rfl
  len := fun p h => by
    have h1 : (lk N p).isSome = true := lk_mem.mpr h
    rw [S.rep.some] at h1
    obtain ⟨x, e⟩ := Option.isSome_iff_exists.mp h1
    have := nodeAt_deep e
    have := deep_pos x
    have := S.deep
    omega
  labs := fun p h => by
    have h1 : (lk N p).isSome = true := lk_mem.mpr h
    rw [S.rep.some] at h1
    obtain ⟨x, e⟩ := Option.isSome_iff_exists.mp h1
    exact nodeAt_labs S.wf e
  wok := fun x hx => by
    have h1 : x.1 ∈ keys N := List.mem_map.mpr ⟨x, hx, rfl⟩
    have nd := S.nd
    have h2 : lk N x.1 = Option.some x.2 := by
      have : ∀ N : Nd, (keys N).Nodup → x ∈ N → lk N x.1 = Option.some x.2 := by
        intro N
        induction N with
        | nil => intro _ h; cases h
        | cons e N ih =>
          intro hn hx
          obtain ⟨n1, n2⟩ := List.nodup_cons.mp (show (e.1 :: keys N).Nodup from hn)
          rw [lk_cons]
          rcases List.mem_cons.mp hx with z | z
          · rw [z, if_pos rfl]
          · rw [if_neg fun q => n1 (by rw [q]; exact List.mem_map.mpr ⟨x, z, rfl⟩)]
            exact ih n2 z
      exact this N nd hx
    rw [S.rep] at h2
    cases e : nodeAt t x.1 with
    | none => rw [e] at h2; cases h2
    | some n =>
      rw [e] at h2
      have e3 : n.wds = x.2 := Option.some.inj h2
      rw [← e3]
      exact (nodeAt_wf S.wf e).wok
theorem tree_back {n k : Nat} {N : Nd} {t u : T} (S : Stn k N t) (h : TreeOf n N [] u) : t = u :=
  same_tree t u S.wf h.wf (S.lab.trans h.lab.symm) fun p => by rw [← S.rep, ← h.rep] <;> rfl
theorem stn_first {n : Nat} {N : Nd} {t : T} (W : WfN N) (h : TreeOf n N [] t) (hn : n ≤ 30) (hl : N.length ≤ 30) : Stn 0 N t :=
  ⟨fun p => h.rep p, h.wf, h.lab, by have := treeOf_deep W h; simpa using this, Wd.mono (by omega) _ h.wd, by omega, W.nd⟩
end Cm
end

section
/-! Data on the heap: places, rows of words, trees; tuples of a number and a text compared. -/
namespace Cm
open PySem PySem.Spec L2

/-- tuples stay -/
def TupK (H H' : Hp) : Prop := ∀ b xs, H b = some (.tup xs) → H' b = some (.tup xs)
theorem TupK.refl (H : Hp) : TupK H H := fun _ _ h => h
theorem TupK.trans {H H1 H2 : Hp} (a : TupK H H1) (b : TupK H1 H2) : TupK H H2 := fun c xs h => b c xs (a c xs h)
theorem TupK.of {H H' : Hp} (s : Same H H') : TupK H H' := fun b xs h => s b _ h
theorem TupK.new {H : Hp} {p : Addr} {o : HO} (h : H p = none) : TupK H (upd H p o) := fun b xs e => by rw [upd_ne (ne_of_none e h)]; exact e
theorem Same.new {H : Hp} {p : Addr} {o : HO} (h : H p = none) : Same H (upd H p o) := fun b u e => by rw [upd_ne (ne_of_none e h)]; exact e
/-- an object that is no tuple is written -/
theorem TupK.put {H : Hp} {p : Addr} {o u : HO} (h : H p = some u) (hu : ∀ xs, u ≠ .tup xs) : TupK H (upd H p o) := fun b xs e => by
  rw [upd_ne fun z => by rw [z, h] at e; exact hu xs (Option.some.inj e)]
  exact e

/-- a tuple of texts -/
def SAt (H : Hp) (v : V) (ws : List Str) : Prop := ∃ a, v = .ref a ∧ H a = some (.tup (ws.map V.str))
theorem SAt.keep {H H' : Hp} {v : V} {ws : List Str} (k : TupK H H') (h : SAt H v ws) : SAt H' v ws := by
  obtain ⟨a, e, h⟩ := h
  exact ⟨a, e, k _ _ h⟩
theorem SAt.inj {H : Hp} {v : V} {ws us : List Str} (h : SAt H v ws) (h' : SAt H v us) : ws = us := by
  obtain ⟨a, rfl, h⟩ := h
  obtain ⟨b, e, h'⟩ := h'
  cases e
  rw [h] at h'
  have e := HO.tup.inj (Option.some.inj h')
  exact (List.map_inj_right fun x y z => V.str.inj z).mp e
def encS (ws : List Str) : PyData := .tuple (ws.map PyData.str)
mutual
def encT : T → PyData
  | .mk l ws ks => .tuple [.str l, encS ws, .tuple (encL ks)]
def encL : List T → List PyData
  | [] => []
  | k :: r => encT k :: encL r
end
mutual
/-- a node stands at v -/
def TAt (H : Hp) : T → V → Prop
  | .mk l ws ks, v => ∃ (a w k : Addr) (vs : List V), v = .ref a ∧ H a = some (.tup [.str l, .ref w, .ref k]) ∧ H w = some (.tup (ws.map V.str)) ∧ H k = some (.tup vs) ∧ TsAt H ks vs
def TsAt (H : Hp) : List T → List V → Prop
  | [], vs => vs = []
  | t :: ks, vs => ∃ v r, vs = v :: r ∧ TAt H t v ∧ TsAt H ks r
end
theorem TAt.open {H : Hp} {t : T} {v : V} (h : TAt H t v) : ∃ (a w k : Addr) (vs : List V), v = .ref a ∧ H a = some (.tup [.str t.lab, .ref w, .ref k]) ∧ H w = some (.tup (t.wds.map V.str)) ∧ H k = some (.tup vs) ∧ TsAt H t.kids vs := by
  obtain ⟨l, ws, ks⟩ := t
  unfold TAt at h
  exact h
theorem TAt.mk {H : Hp} {l : Str} {ws : List Str} {ks : List T} {a w k : Addr} {vs : List V} (h1 : H a = some (.tup [.str l, .ref w, .ref k])) (h2 : H w = some (.tup (ws.map V.str))) (h3 : H k = some (.tup vs)) (h4 : TsAt H ks vs) : TAt H (.mk l ws ks) (.ref a) := by
  unfold TAt
  exact ⟨a, w, k, vs, rfl, h1, h2, h3, h4⟩
theorem tsAt_nil {H : Hp} {vs : List V} : TsAt H [] vs ↔ vs = [] := by unfold TsAt; exact Iff.rfl
theorem tsAt_cons {H : Hp} {t : T} {ks : List T} {vs : List V} : TsAt H (t :: ks) vs ↔ ∃ v r, vs = v :: r ∧ TAt H t v ∧ TsAt H ks r := by
  conv => lhs; unfold TsAt
theorem TsAt.len {H : Hp} : ∀ {ks : List T} {vs : List V}, TsAt H ks vs → vs.length = ks.length
  | [], vs, h => by rw [tsAt_nil.mp h] <;> rfl
  | t :: ks, vs, h => by
    obtain ⟨v, r, rfl, _, h⟩ := tsAt_cons.mp h
    rw [List.length_cons, List.length_cons, TsAt.len h]
theorem TsAt.get {H : Hp} : ∀ {ks : List T} {vs : List V} {i : Nat} {v : V}, TsAt H ks vs → vs[i]? = some v → ∃ t, ks[i]? = some t ∧ TAt H t v
  | [], vs, i, v, h, e => by rw [tsAt_nil.mp h] at e; simp at e
  | t :: ks, vs, 0, v, h, e => by
    obtain ⟨x, r, rfl, h1, h2⟩ := tsAt_cons.mp h
    rw [List.getElem?_cons_zero] at e
    cases e
    exact ⟨t, rfl, h1⟩
  | t :: ks, vs, i + 1, v, h, e => by
    obtain ⟨x, r, rfl, h1, h2⟩ := tsAt_cons.mp h
    rw [List.getElem?_cons_succ] at e
    obtain ⟨u, h3, h4⟩ := TsAt.get h2 e
    exact ⟨u, by rw [List.getElem?_cons_succ]; exact h3, h4⟩
theorem TsAt.app {H : Hp} : ∀ {ks ls : List T} {vs us : List V}, TsAt H ks vs → TsAt H ls us → TsAt H (ks ++ ls) (vs ++ us)
  | [], ls, vs, us, h, h' => by rw [tsAt_nil.mp h]; exact h'
  | t :: ks, ls, vs, us, h, h' => by
    obtain ⟨x, r, rfl, h1, h2⟩ := tsAt_cons.mp h
    exact tsAt_cons.mpr ⟨x, r ++ us, rfl, h1, TsAt.app h2 h'⟩
theorem TsAt.one {H : Hp} {t : T} {v : V} (h : TAt H t v) : TsAt H [t] [v] := tsAt_cons.mpr ⟨v, [], rfl, h, tsAt_nil.mpr rfl⟩
theorem TsAt.drop {H : Hp} : ∀ {ks : List T} {vs : List V} (n : Nat), TsAt H ks vs → TsAt H (ks.drop n) (vs.drop n)
  | ks, vs, 0, h => h
  | [], vs, n + 1, h => by rw [tsAt_nil.mp h]; exact tsAt_nil.mpr rfl
  | t :: ks, vs, n + 1, h => by
    obtain ⟨x, r, rfl, h1, h2⟩ := tsAt_cons.mp h
    exact TsAt.drop n h2
theorem TsAt.take {H : Hp} : ∀ {ks : List T} {vs : List V} (n : Nat), TsAt H ks vs → TsAt H (ks.take n) (vs.take n)
  | ks, vs, 0, h => tsAt_nil.mpr rfl
  | [], vs, n + 1, h => by rw [tsAt_nil.mp h]; exact tsAt_nil.mpr rfl
  | t :: ks, vs, n + 1, h => by
    obtain ⟨x, r, rfl, h1, h2⟩ := tsAt_cons.mp h
    exact tsAt_cons.mpr ⟨x, r.take n, rfl, h1, TsAt.take n h2⟩
theorem TsAt.paired {H : Hp} : ∀ {ks : List T} {vs : List V}, TsAt H ks vs ↔ Paired (fun v t => TAt H t v) vs ks
  | [], vs => by
    rw [tsAt_nil]
    exact ⟨fun e => by rw [e]; exact .nil, fun h => by cases h; rfl⟩
  | t :: ks, vs => by
    rw [tsAt_cons]
    constructor
    · rintro ⟨v, r, rfl, h1, h2⟩
      exact .cons h1 (TsAt.paired.mp h2)
    · intro h
      cases h with
      | cons h1 h2 => exact ⟨_, _, rfl, h1, TsAt.paired.mpr h2⟩
theorem TAt.keep {H H' : Hp} (k : TupK H H') : ∀ (t : T) {v : V}, TAt H t v → TAt H' t v := fun t => by
  refine T.ind (P := fun t => ∀ {v : V}, TAt H t v → TAt H' t v) t fun l ws ks ih v h => ?_
  obtain ⟨a, w, c, vs, rfl, h1, h2, h3, h4⟩ := h.open
  refine .mk (k _ _ h1) (k _ _ h2) (k _ _ h3) (TsAt.paired.mpr ?_)
  have h5 : Paired (fun v t => TAt H t v) vs ks := TsAt.paired.mp h4
  have gen : ∀ {us : List V} {ls : List T}, Paired (fun v t => TAt H t v) us ls → (∀ t ∈ ls, ∀ {v : V}, TAt H t v → TAt H' t v) → Paired (fun v t => TAt H' t v) us ls := by
    intro us ls p
    induction p with
    | nil => intro _; exact .nil
    | cons r q ih2 => intro hk; exact .cons (hk _ List.mem_cons_self r) (ih2 fun t ht => hk t (List.mem_cons_of_mem _ ht))
  exact gen h5 ih
theorem TsAt.keep {H H' : Hp} (k : TupK H H') {ks : List T} {vs : List V} (h : TsAt H ks vs) : TsAt H' ks vs := TsAt.paired.mpr (Paired.mono (fun v t => TAt.keep k t) (TsAt.paired.mp h))

/-! ### as data -/
theorem dp_strs {K : PySem.W.Frag} {H : Hp} : ∀ ws : List Str, DpAll K H (ws.map V.str) (ws.map PyData.str)
  | [] => .nil
  | w :: r => .cons (.str w) (dp_strs r)
theorem SAt.dp {K : PySem.W.Frag} {H : Hp} {v : V} {ws : List Str} (h : SAt H v ws) : Dp K H v (encS ws) := by
  obtain ⟨a, rfl, h⟩ := h
  exact .tup (SqT.of h) (dp_strs ws)
theorem TAt.dp {K : PySem.W.Frag} {H : Hp} : ∀ (t : T) {v : V}, TAt H t v → Dp K H v (encT t) := fun t => by
  refine T.ind (P := fun t => ∀ {v : V}, TAt H t v → Dp K H v (encT t)) t fun l ws ks ih v h => ?_
  obtain ⟨a, w, c, vs, rfl, h1, h2, h3, h4⟩ := h.open
  have gen : ∀ {ls : List T} {us : List V}, TsAt H ls us → (∀ t ∈ ls, ∀ {v : V}, TAt H t v → Dp K H v (encT t)) → DpAll K H us (encL ls) := by
    intro ls
    induction ls with
    | nil => intro us h _; rw [tsAt_nil.mp h]; unfold encL; exact .nil
    | cons t ls ih2 =>
      intro us h hk
      obtain ⟨x, r, rfl, a1, a2⟩ := tsAt_cons.mp h
      unfold encL
      exact .cons (hk t List.mem_cons_self a1) (ih2 a2 fun t ht => hk t (List.mem_cons_of_mem _ ht))
  unfold encT
  exact .tup (SqT.of h1) (.cons (.str l) (.cons (SAt.dp ⟨w, rfl, h2⟩) (.cons (.tup (SqT.of h3) (gen h4 ih)) .nil)))
theorem lay_strs : ∀ ws : List Str, (∀ w ∈ ws, PyData.strOk w = true) → PyData.canLayAll0 (ws.map PyData.str) = true ∧ PyData.depthAll (ws.map PyData.str) = 0
  | [], _ => ⟨rfl, rfl⟩
  | w :: r, h => by
    obtain ⟨i1, i2⟩ := lay_strs r fun x hx => h x (List.mem_cons_of_mem _ hx)
    have e := h w List.mem_cons_self
    constructor
    · show (PyData.strOk w && PyData.canLayAll0 (r.map PyData.str)) = true
      rw [e, i1] <;> rfl
    · show max 0 (PyData.depthAll (r.map PyData.str)) = 0
      rw [i2] <;> rfl
theorem encS_shaped {ws : List Str} (h : ∀ w ∈ ws, PyData.strOk w = true) : SeqAt.shaped (encS ws) = true := by
  obtain ⟨i1, i2⟩ := lay_strs ws h
  have e : (encS ws).depth = 1 := by
    show PyData.depthAll (ws.map PyData.str) + 1 = 1
    rw [i2]
  unfold SeqAt.shaped
  rw [e, Bool.and_eq_true]
  exact ⟨i1, by decide⟩
theorem encS_eqv : ∀ ws us : List Str, PyData.eqv (encS ws) (encS us) = decide (ws = us) := fun ws us => by
  show PyData.eqv (.tuple (ws.map PyData.str)) (.tuple (us.map PyData.str)) = _
  rw [PyData.eqv]
  induction ws generalizing us with
  | nil =>
    cases us with
    | nil => rfl
    | cons u r => rfl
  | cons w q ih =>
    cases us with
    | nil => rfl
    | cons u r =>
      rw [List.map_cons, List.map_cons, PyData.eqvAll, ih, PyData.eqv]
      by_cases h1 : w = u
      · by_cases h2 : q = r
        · subst h1; subst h2; simp
        · rw [decide_eq_false h2, decide_eq_false fun z => h2 (List.cons.inj z).2, Bool.and_false]
      · rw [decide_eq_false fun z => h1 (List.cons.inj z).1, beq_eq_false_iff_ne.mpr h1, Bool.false_and]
theorem encT_shape : ∀ t : T, Wf t → PyData.strOk t.lab = true → (encT t).canLay0 = true ∧ (encT t).depth ≤ 2 * t.deep := fun t => by
  refine T.ind (P := fun t => Wf t → PyData.strOk t.lab = true → (encT t).canLay0 = true ∧ (encT t).depth ≤ 2 * t.deep) t fun l ws ks ih h hl => ?_
  have hl : PyData.strOk l = true := hl
  obtain ⟨i1, i2⟩ := lay_strs ws h.wok
  have gen : ∀ (n : Nat) (ls : List T), (∀ t ∈ ls, (encT t).canLay0 = true ∧ (encT t).depth ≤ 2 * t.deep) → (∀ t ∈ ls, t.deep ≤ n) → PyData.canLayAll0 (encL ls) = true ∧ PyData.depthAll (encL ls) ≤ 2 * n := by
    intro n ls
    induction ls with
    | nil => intro _ _; unfold encL; exact ⟨rfl, Nat.zero_le _⟩
    | cons t ls ih2 =>
      intro h1 h2
      obtain ⟨a1, a2⟩ := h1 t List.mem_cons_self
      obtain ⟨b1, b2⟩ := ih2 (fun x hx => h1 x (List.mem_cons_of_mem _ hx)) fun x hx => h2 x (List.mem_cons_of_mem _ hx)
      have c := h2 t List.mem_cons_self
      unfold encL
      constructor
      · show ((encT t).canLay0 && PyData.canLayAll0 (encL ls)) = true
        rw [a1, b1] <;> rfl
      · show max (encT t).depth (PyData.depthAll (encL ls)) ≤ _
        omega
  obtain ⟨g1, g2⟩ := gen (deepL ks) ks (fun t ht => ih t ht (h.kid t ht) (isLab_ok (h.labs t ht))) (fun t ht => deepL_le ht)
  unfold encT
  constructor
  · show (PyData.strOk l && (PyData.canLayAll0 (ws.map PyData.str) && (PyData.canLayAll0 (encL ks) && true))) = true
    rw [hl, i1, g1] <;> rfl
  · show max 0 (max (PyData.depthAll (ws.map PyData.str) + 1) (max (PyData.depthAll (encL ks) + 1) 0)) + 1 ≤ _
    rw [i2, T.deep_eq]
    show _ ≤ 2 * (deepL ks + 1)
    omega
theorem encT_shaped {t : T} (h : Wf t) (hl : PyData.strOk t.lab = true) (hd : t.deep ≤ 9) : SeqAt.shaped (encT t) = true := by
  obtain ⟨h1, h2⟩ := encT_shape t h hl
  unfold SeqAt.shaped
  rw [h1, Bool.true_and]
  exact decide_eq_true (by omega)
theorem encT_eqv {t : T} (h : Wf t) (hl : PyData.strOk t.lab = true) : PyData.eqv (encT t) (encT t) = true := SeqAt.eqv_refl _ (encT_shape t h hl).1

/-! ### (number, text) < (number, text) -/
def rLtK (K : PySem.W.Frag) : R2 := fun x y H Q => ∃ (a b : Addr) (i j : Int) (u v : Str), x = .ref a ∧ y = .ref b ∧ H a = some (.tup [.int i, .str u]) ∧ H b = some (.tup [.int j, .str v]) ∧ Q (.bl (decide (i < j ∨ (i = j ∧ u.cps.toList < v.cps.toList)))) H
theorem rc_lt_str {A : Around} {s : Shared} (u v : Str) (t t' : Tok) : Ob.RcOp .Lt A s (.str u t) (.str v t') (decide (u.cps.toList < v.cps.toList)) := fun _ _ _ _ h => PyProof.Rows.lt_str h
theorem op_ltK {X : Cx} (hu : X.A.units < cLine) : OpR X (compareOp .Lt) (rLtK X.K) := by
  intro pins s σ H x y p q Q I rx ry h
  obtain ⟨a, b, i, j, u, v, rfl, rfl, ha, hb, k⟩ := h
  cases rx
  cases ry
  obtain ⟨_, its, r1, p1⟩ := I.hok a _ ha
  obtain ⟨_, its2, r2, p2⟩ := I.hok b _ hb
  obtain ⟨u1, u2, rfl, ⟨t1, rfl⟩, ⟨t2, rfl⟩⟩ := vals2 r1
  obtain ⟨v1, v2, rfl, ⟨t3, rfl⟩, ⟨t4, rfl⟩⟩ := vals2 r2
  have R := Ob.RcOp.tuples_lt (A := X.A) (s := s) (e := fun n => if n = 0 then (i == j) else (u == v)) (r := fun n => if n = 0 then decide (i < j) else decide (u.cps.toList < v.cps.toList)) p1 p2 hu
    (fun n h1 h2 => by
      have h3 : n < 2 := h1
      match n, h3 with
      | 0, _ => exact SeqAt.EqAt.int_int _ _ _ _
      | 1, _ => exact SeqAt.EqAt.str_str _ _ _ _)
    (fun n h1 h2 _ => by
      have h3 : n < 2 := h1
      match n, h3 with
      | 0, _ => exact Ob.RcOp.lt_int _ _ _ _
      | 1, _ => exact rc_lt_str _ _ _ _)
  refine (show wpAny (model X.prog X.w) X.A (compareOp .Lt (.ref a) (.ref b)) (EP X pins σ Q) X.xe s from R X.prog X.w X.xe (EP X pins σ Q) ⟨.bl _, H, I, rfl, ?_⟩)
  have e : Ob.lexAt (fun n => if n = 0 then (i == j) else (u == v)) (fun n => if n = 0 then decide (i < j) else decide (u.cps.toList < v.cps.toList)) (decide (2 < 2)) 0 2 = decide (i < j ∨ (i = j ∧ u.cps.toList < v.cps.toList)) := by
    rw [Ob.lexAt_succ, Ob.lexAt_succ, Ob.lexAt_zero]
    by_cases h1 : i = j
    · subst h1
      have n1 : ¬ i < i := by omega
      by_cases h2 : u = v
      · subst h2
        simp [n1]
      · have : (u == v) = false := beq_eq_false_iff_ne.mpr h2
        simp [this, n1]
    · have : (i == j) = false := beq_eq_false_iff_ne.mpr h1
      simp [this, h1]
  show Q (.bl (Ob.lexAt _ _ (decide (2 < 2)) 0 2)) H
  rw [e]
  exact k
end Cm
end

section
/-! max(xs, default=d) of whole numbers. -/
namespace Cm
open PySem PySem.Spec PyProof.Rows L2

/-- the greatest of the first j -/
def Top (ns : List Int) (j : Nat) (m : Int) : Prop := m ∈ ns.take j ∧ ∀ a ∈ ns.take j, a ≤ m
theorem top_first {ns : List Int} {x : Int} (h : ns[0]? = some x) : Top ns 1 x := by
  cases ns with
  | nil => cases h
  | cons a r =>
    obtain rfl : a = x := Option.some.inj h
    refine ⟨by simp, fun b hb => ?_⟩
    have e : b = a := by simpa using hb
    rw [e]
    exact Int.le_refl _
theorem top_next {ns : List Int} {j : Nat} {m x : Int} (t : Top ns j m) (h : ns[j]? = some x) : Top ns (j + 1) (if x > m then x else m) := by
  have e : ns.take (j + 1) = ns.take j ++ [x] := by rw [List.take_add_one, h] <;> rfl
  obtain ⟨t1, t2⟩ := t
  unfold Top
  rw [e]
  by_cases c : x > m
  · rw [if_pos c]
    refine ⟨List.mem_append_right _ List.mem_cons_self, fun a ha => ?_⟩
    rcases List.mem_append.mp ha with z | z
    · exact Int.le_of_lt (Int.lt_of_le_of_lt (t2 a z) c)
    · rw [List.mem_singleton.mp z]; exact Int.le_refl _
  · rw [if_neg c]
    refine ⟨List.mem_append_left _ t1, fun a ha => ?_⟩
    rcases List.mem_append.mp ha with z | z
    · exact t2 a z
    · rw [List.mem_singleton.mp z]; omega
/-- what the pair of best item and best value holds behind j items -/
def BestIs (ns : List Int) (j : Nat) (c : Array Value) : Prop := (j = 0 ∧ c = #[]) ∨ (0 < j ∧ ∃ m t, c = #[.int m t, .int m t] ∧ Top ns j m)

section
variable {prog : Program} {w : World} {A : Around} {R : Result → Shared → Prop} {I : Addr} {fp wr : List Addr} {ns : List Int} {St : Nat → Heap → Prop}
theorem maxD_run {d : Value} (W : Walks prog w A.in1 I fp wr ns.length (fun i v => ∃ x t, ns[i]? = some x ∧ v = .int x t) St) (S : Addr) (hS : S ∉ fp) :
    ∀ (k j : Nat) (s : Shared) (c : Array Value) (n : Nat), ns.length - j = k → j ≤ ns.length → St j s.heap → BestIs ns j c → s.heap.get? S = some { cls := .type "list", dict := none, data := .seq c n, slots := #[] } →
    (∀ v h' tk, (ns = [] → v = d) → (∀ m, Top ns ns.length m → ∃ t, v = .int m t) → (ns ≠ [] → ∃ m t, v = .int m t ∧ Top ns ns.length m) → (∀ b o, b ∉ wr → b ≠ S → s.heap.get? b = some o → h'.get? b = some o) → R (.ok (.ret v)) { s with heap := h', toks := tk }) →
    codeAny (model prog w) A (.builtin "max.loop" ⟨[.ref I, .none, .ref S], [(Str.ofString "default", d)]⟩) R s := by
  have hSw : S ∉ wr := fun h => hS (W.sub _ h)
  have name : (toString "max" ++ toString ".loop" : String) = "max.loop" := by decide
  intro k
  induction k with
  | zero =>
    intro j s c n hk hj hst hb hc hR
    have hj' : j = ns.length := by omega
    subst hj'
    refine codeAny_builtin F.entry_max_loop ?_
    rw [Around.under_plainId F.plain_max_loop _]
    show wpAny _ A.in1 (seqItems? (.ref S) >>= _) _ _ s
    refine wpAny_bind (wpAny_seqItems hc rfl ?_)
    show wpAny _ A.in1 (tryCatch (pyNext (.ref I)) _ >>= _) _ _ s
    refine wpAny_bind (wpAny_tryCatch (W.done s _ _ hst fun h' tk keep => ?_))
    have hc' := keep S _ hSw hc
    rcases hb with ⟨h0, rfl⟩ | ⟨h0, m, t, rfl, ht⟩
    · have e0 : ns = [] := List.eq_nil_of_length_eq_zero h0
      show wpAny _ A.in1 (rule _ >>= _) _ _ _
      refine wpAny_bind (wpAny_rule (wpAny_pure ?_))
      refine hR d h' tk (fun _ => rfl) (fun m ht => ?_) (fun z => absurd e0 z) fun b o h1 _ e => keep b o h1 e
      rw [e0] at ht
      exact absurd ht.1 (by simp)
    · show wpAny _ A.in1 (updateSeq S (fun _ => #[]) >>= _) _ _ _
      refine wpAny_bind ?_
      refine wpAny_updateSeq hc' rfl (wpAny_bind (wpAny_letGo (wpAny_pure ?_)))
      refine hR (.int m t) _ tk (fun e => ?_) (fun m' ht' => ⟨t, ?_⟩) (fun _ => ⟨m, t, rfl, ht⟩) fun b o h1 h2 e => (Heap.get?_update_other _ _ (Ne.symm h2)).trans (keep b o h1 e)
      · rw [e] at h0
        exact absurd h0 (by simp)
      · have a1 := ht.2 m' ht'.1
        have a2 := ht'.2 m ht.1
        have : m = m' := by omega
        rw [this]
  | succ k ih =>
    intro j s c n hk hj hst hb hc hR
    have hlt : j < ns.length := by omega
    refine codeAny_builtin F.entry_max_loop ?_
    rw [Around.under_plainId F.plain_max_loop _]
    show wpAny _ A.in1 (seqItems? (.ref S) >>= _) _ _ s
    refine wpAny_bind (wpAny_seqItems hc rfl ?_)
    show wpAny _ A.in1 (tryCatch (pyNext (.ref I)) _ >>= _) _ _ s
    refine wpAny_bind (wpAny_tryCatch (W.item j s _ _ hlt hst fun v h' tk hv st' keep => ?_))
    obtain ⟨x, t', hx, rfl⟩ := hv
    have hc' := keep S _ hSw hc
    have on : ∀ (g : Array Value → Array Value) (c2 : Array Value), g c = c2 → BestIs ns (j + 1) c2 → codeAny (model prog w) A (.builtin "max.loop" ⟨[.ref I, .none, .ref S], [(Str.ofString "default", d)]⟩) R { s with heap := h'.update S (Obj.mapSeq g), toks := tk } := fun g c2 hg hb2 => by
      subst hg
      refine ih (j + 1) _ _ _ (by omega) hlt (W.frame _ _ _ st' fun b hbf o e => ?_) hb2 (Heap.get?_update_self _ hc' rfl) fun v h'' tk'' h1 h2 h3 h4 => hR v h'' tk'' h1 h2 h3 fun b o b1 b2 e => h4 b o b1 b2 ((Heap.get?_update_other _ _ (Ne.symm b2)).trans (keep b o b1 e))
      exact (Heap.get?_update_other _ _ (fun z : S = b => hS (by rw [z]; exact hbf))).trans e
    rcases hb with ⟨h0, rfl⟩ | ⟨h0, m, t, rfl, ht⟩
    · subst h0
      show wpAny _ A.in1 (updateSeq S (fun _ => #[Value.int x t', Value.int x t']) >>= _) _ _ _
      refine wpAny_bind ?_
      refine wpAny_updateSeq hc' rfl ?_
      rw [name]
      exact wpAny_pure ⟨plainId_quiet F.plain_max_loop _, on (fun _ => #[Value.int x t', Value.int x t']) _ rfl (.inr ⟨by omega, x, t', rfl, top_first hx⟩)⟩
    · show wpAny _ A.in1 (tryCatch (holding [Value.int x t', Value.int x t'] (richCompare .Gt (Value.int x t') (Value.int m t) >>= _)) _ >>= _) _ _ _
      refine wpAny_bind (wpAny_tryCatch (wpAny_holding (wpAny_bind (PyProof.Rows.gt_int ?_))))
      refine wpAny_bind (wpAny_holding (wpAny_truthy_bool ?_))
      refine wpAny_bind (wpAny_letGo (wpAny_pure ?_))
      have nx := top_next ht hx
      by_cases g : x > m
      · rw [if_pos g] at nx
        rw [decide_eq_true (show m < x from g)]
        simp only [if_true]
        refine wpAny_bind ?_
        refine wpAny_updateSeq hc' rfl (wpAny_bind (wpAny_letGo ?_))
        rw [name]
        exact wpAny_pure ⟨plainId_quiet F.plain_max_loop _, on (fun _ => #[Value.int x t', Value.int x t']) _ rfl (.inr ⟨by omega, x, t', rfl, nx⟩)⟩
      · rw [if_neg g] at nx
        rw [decide_eq_false (show ¬ m < x from g)]
        simp only [Bool.false_eq_true, if_false]
        refine wpAny_bind (wpAny_letGo ?_)
        rw [name]
        refine wpAny_pure ⟨plainId_quiet F.plain_max_loop _, ?_⟩
        refine ih (j + 1) _ _ _ (by omega) hlt st' (.inr ⟨by omega, m, t, rfl, nx⟩) hc' fun v h'' tk'' h1 h2 h3 h4 => hR v h'' tk'' h1 h2 h3 fun b o b1 b2 e => h4 b o b1 b2 (keep b o b1 e)
end
theorem off2 {h : Heap} {o : Obj} {a : Nat} (ha : a < h.objs.size) : (h.push o).objs.size ∉ ([h.objs.size, a] : List Nat) := by
  rw [size_push']
  intro z
  rcases List.mem_cons.mp z with z | z
  · omega
  · have := List.mem_singleton.mp z
    omega
theorem ne_up {h : Heap} {o : Obj} {a : Nat} (ha : a < h.objs.size) : a ≠ (h.push o).objs.size := by
  rw [size_push']
  omega
theorem max_argsD (l d : Value) : argsOk "max" ⟨[l], [(Str.ofString "default", d)]⟩ := by unfold argsOk; kernel_rfl
/-- a built-in called with keywords, its code gone on with -/
theorem call_kw_tree {prog : Program} {w : World} {A : Around} {E : Value → Shared → Prop} {s : Shared} {id : String} {b : Builtin} {as : List Value} {kw : List (Str × Value)} {Q : Value → Shared → Prop} (k1 : builtinKind id = none) (k2 : plainId id = true) (k3 : entryFor table id = some b) (k4 : argsOk id ⟨as, kw⟩)
    (run : wpAny (model prog w) A.in1 (b ⟨as, kw⟩) (fun f s' => match f with
      | .again c => c.quiet = true ∧ codeAny (model prog w) A c (fun r s' => match r with | .error e => E e s' | .ok (.ret v) => Q v s' | .ok _ => False) s'
      | .done g => (match g with | .ret v => Q v s' | _ => False)) E s) : wpAny (model prog w) A (call (.builtin id) as kw) Q E s := by
  refine wpAny_call (codeAny_call_builtin k2 k3 ?_)
  have run' : wpAny (model prog w) A.in1 (b ⟨as, kw⟩) (fun f s' => match f with
      | .done g => (match (Except.ok g : Result) with | .ok (.ret v) => Q v s' | .ok _ => False | .error e => E e s')
      | .again c => c.quiet = true ∧ codeAny (model prog w) A c (fun r s' => match r with | .ok (.ret v) => Q v s' | .ok _ => False | .error e => E e s') s') E s := by
    refine wpAny_mono run (fun f s' h => ?_) fun _ _ h => h
    cases f with
    | done g => cases g <;> exact h
    | again c =>
      refine ⟨h.1, codeAny_mono h.2 fun r s'' h2 => ?_⟩
      cases r with
      | error e => exact h2
      | ok g => cases g <;> exact h2
  unfold checkBuiltinCall
  simp only [k1]
  cases sg : Manifest.signature? id with
  | none => exact wpAny_pure run'
  | some z =>
    have e : Bind.checkArgs id z ⟨as, kw⟩ = pure () := by simpa only [argsOk, sg] using k4
    simp only [e]
    exact wpAny_pure run'
/-- max(xs, default=d), d a whole number -/
def rMaxD (K : PySem.W.Frag) : List V → List V → Hp → VK → Prop := fun vs zs H Q => ∃ (a : Addr) (ns : List Int) (d : Int), vs = [V.ref a] ∧ zs = [V.int d] ∧ SqL K H a (ns.map V.int) ∧ (ns = [] → Q (.int d) H) ∧ ∀ m, Top ns ns.length m → Q (.int m) H
theorem cr_maxD {X : Cx} (hc : X.calm = true) : CallRK X (.builtin "max") [Str.ofString "default"] (rMaxD X.K) := by
  intro pins s σ H vs zs us ws Q I r rz h
  obtain ⟨a, ns, d, rfl, rfl, hs, q0, q1⟩ := h
  obtain rfl := Vals.ref1 r
  obtain ⟨w1, rfl, t0, rfl⟩ := vals1 rz
  obtain ⟨its, rv, hl, hz⟩ := I.list hs
  have hi := rv.ints
  have hh : X.A.in1.handled = none := I.ok.hd hc
  have bind : Builtin.Builtins.bindParams "max" ["key", "default"] 0 ⟨[], [(Str.ofString "default", Value.int d t0)]⟩ = pure [none, some (Value.int d t0)] := rfl
  have name : (toString "max" ++ toString ".loop" : String) = "max.loop" := by decide
  refine call_kw_tree F.kind_max F.plain_max F.entry_max (max_argsD _ _) ?_
  show wpAny _ X.A.in1 (Builtin.Builtins.bindParams "max" ["key", "default"] 0 ⟨[], [(Str.ofString "default", Value.int d t0)]⟩ >>= _) _ _ s
  rw [bind]
  refine wpAny_bind (wpAny_pure ?_)
  refine wpAny_bind (wpAny_pure ?_)
  refine wpAny_bind (wpAny_pyIter_list hl.isList ?_)
  refine wpAny_bind (wpAny_newObj_type ?_)
  rw [name]
  have la : a ≠ s.heap.objs.size := Nat.ne_of_lt hl.lt
  have hn : its.toArray.size = ns.length := by rw [List.size_toArray]; exact hi.length
  have W0 := Walks.list (prog := X.prog) (w := X.w) hh s.heap.objs.size a la its.toArray
  rw [hn] at W0
  have W : Walks X.prog X.w X.A.in1 s.heap.objs.size [s.heap.objs.size, a] [s.heap.objs.size] ns.length (fun i v => ∃ x t, ns[i]? = some x ∧ v = .int x t) (fun i h => h.IsListIter s.heap.objs.size a i ∧ h.IsList a its.toArray) :=
    W0.mono_item fun i v hlt hv => by
      have hx : ns[i]? = some ns[i] := List.getElem?_eq_getElem hlt
      obtain ⟨u, hu, hr⟩ := rv.get (i := i) (x := V.int ns[i]) (by rw [List.getElem?_map, hx] <;> rfl)
      obtain ⟨t, rfl⟩ := hr
      have : its[i]? = some v := by simpa using hv
      rw [hu] at this
      cases this
      exact ⟨_, t, hx, rfl⟩
  refine wpAny_pure ⟨plainId_quiet F.plain_max_loop _, ?_⟩
  have up : ∀ b o, s.heap.get? b = some o → ((s.heap.push { cls := .type "list_iterator", data := .fields #[.ref a, .int 0 0] }).push { cls := .type "list", data := .seq #[] }).get? b = some o := fun b o e => Heap.get?_push_of_some _ (Heap.get?_push_of_some _ e)
  refine maxD_run W _ ?_ _ 0 _ #[] 0 rfl (Nat.zero_le _) ?_ (.inl ⟨rfl, rfl⟩) (Heap.get?_push_size _ rfl) fun v h' tk h1 h2 h3 keep => ?_
  · exact off2 hl.lt
  · exact ⟨⟨_, Heap.get?_push_of_some _ (Heap.get?_push_size _ rfl), rfl, rfl⟩, hl.isList.at fun o e => up _ _ e⟩
  · have J : Inv X pins σ H { s with heap := h', toks := tk } := I.kept fun b o e => keep b o (fun z => Nat.ne_of_lt (Heap.lt_size e) (List.mem_singleton.mp z)) (ne_up (Heap.lt_size e)) (up b o e)
    by_cases c : ns = []
    · rw [h1 c]
      exact ⟨.int d, H, J, ⟨t0, rfl⟩, q0 c⟩
    · obtain ⟨m, t, rfl, ht⟩ := h3 c
      exact ⟨.int m, H, J, ⟨t, rfl⟩, q1 m ht⟩
end Cm
end

section
/-! A lambda as a value: made in a def, known on the heap, called. -/
namespace Cm
open PySem PySem.Spec PyProof.Rows L2 LamX

/-- a lambda's words, the cells that it captured, its code object -/
structure LF where
  qual : Str
  params : Arguments
  body : Expr
  scope : Scope
  cl : List (Str × Addr)
  c : Addr
abbrev LF.nf (F : LF) : NdefX.NF := ⟨"<lambda>", F.qual, F.params, [], F.scope, F.cl, F.c⟩
abbrev LF.obj (F : LF) (pm ctv : Value) : Obj := PySem.W.kla_obj "<lambda>" F.qual F.params F.body F.scope F.cl pm F.c ctv
/-- the object at f is the lambda F -/
def LamO (f : Addr) (F : LF) : HO := .ext fun h => ∃ pm ctv : Value, h.get? f = some (F.obj pm ctv)
theorem lamO_ne {f : Addr} {F : LF} (ps : Array Value) : LamO f F ≠ .tbl ps := fun z => by
  unfold LamO at z
  cases z
theorem lamO_tup {f : Addr} {F : LF} (xs : List V) : LamO f F ≠ .tup xs := fun z => by
  unfold LamO at z
  cases z
theorem lamO_at {P : Program} {w : World} {H : Hp} {h : Heap} {f : Addr} {F : LF} (hok : HOk P w H h) (e : H f = some (LamO f F)) : ∃ pm ctv : Value, h.get? f = some (F.obj pm ctv) := (hok f _ e).1
theorem code_at {P : Program} {w : World} {H : Hp} {h : Heap} {c : Addr} {q : Str} (hok : HOk P w H h) (e : H c = some (CodeO c q)) : h.CodeRec (.ref c) q := by
  obtain ⟨⟨oc, vs, t, h1, h2, h3⟩, _, _⟩ := hok c _ e
  exact ⟨c, oc, vs, t, rfl, h1, h2, h3⟩
section
variable {X : Cx} {pins : List (Addr × Obj)} {σ : L2.St} {H : Hp} {s : Shared}
/-- a lambda's object just laid is known -/
theorem inv_lam {F : LF} {pm ctv : Value} {t' : Nat} (I : Inv X pins σ H s) : Inv X pins σ (upd H s.heap.objs.size (LamO s.heap.objs.size F)) { s with heap := s.heap.push (F.obj pm ctv), toks := t' } := by
  have e : (s.heap.push (F.obj pm ctv)).get? s.heap.objs.size = some (F.obj pm ctv) := Heap.get?_push_size _ rfl
  exact I.laid (a := s.heap.objs.size) (o := LamO s.heap.objs.size F) (fun b u q => Heap.get?_push_of_some _ q) (Nat.le_refl _) ⟨⟨pm, ctv, e⟩, ⟨_, e⟩, fun h1 h2 ⟨p, t, z⟩ st => ⟨p, t, st _ z⟩⟩
theorem lam_mk {T : List (Addr × Str)} {c P : Addr} {q : Str} {params : Arguments} {body : Expr} {scope : Scope} {pos : Pos} {E : Value → Shared → Prop} {Q : Value → Shared → Prop} (I : Inv X pins σ H s) (TB : TabB X.base X.mg c P) (hcode : X.env.code = .ref c)
    (hq : X.env.qual ++ "<lambda>" = q) (hm : (P, q) ∈ T) (hu : ∀ p ∈ T, p.1 = P → p.2 = q) (hT : Tabs T H) (hdef : defaultsOf params X.env = ([], [])) (hfree : ∀ y ∈ scope.names, y.2 = .free → ∃ c, X.env.cells.lookup y.1 = some c)
    (h : ∀ (f c' : Addr) (H1 : Hp) (s' : Shared), Inv X pins σ H1 s' → ExtN H H1 → Tabs T H1 → H f = none → H1 f = some (LamO f ⟨q, params, body, scope, cloFrom X.env.cells scope.names [], c'⟩) → H1 c' = some (CodeO c' q) → Q (.ref f) s') :
    wpAny (model X.prog X.w) X.A (eval (.Lambda params body scope pos) X.env) Q E s := by
  subst hq
  obtain ⟨ps, hP, ht, ha⟩ := (show TabS H P (X.env.qual ++ "<lambda>") from hT _ hm)
  have hB : s.heap.BuiltinsAt X.mg P := TB.bm.keeps I.bk
  have hP' : s.heap.get? P = some { cls := .none, data := .fields ps } := I.hok P _ hP
  refine PySem.W.kla_eval hdef ?_
  cases among : codeAmong pos ps.toList with
  | some cv =>
    obtain ⟨c', rfl, hco⟩ := ha pos cv among
    refine PySem.W.kla_makeFunctionHit (mg := X.mg) (c := c) (P := P) (ps := ps) (closure_ok hfree) I.ok.glob (I.mod.glob.keeps I.bk) hcode (TB.code.keeps I.bk) hP' ht among hB fun ctv h' tk hx hsz => ?_
    have J : Inv X pins σ H { s with heap := h', toks := tk } := I.kept hx
    have nf : H h'.objs.size = none := J.hok.fresh (Nat.le_refl _)
    have J2 := inv_lam (F := ⟨X.env.qual ++ "<lambda>", params, body, scope, cloFrom X.env.cells scope.names [], c'⟩) (pm := (X.mg "__name__").getD .none) (ctv := ctv) (t' := tk) J
    have keep : ∀ b o, H b = some o → upd H h'.objs.size (LamO h'.objs.size ⟨X.env.qual ++ "<lambda>", params, body, scope, cloFrom X.env.cells scope.names [], c'⟩) b = some o := fun b o e => by rw [upd_ne (ne_of_none e nf)]; exact e
    exact h _ c' _ _ J2 (ExtN.of keep) (hT.ext keep) nf upd_same (keep _ _ hco)
  | none =>
    refine PySem.W.kla_makeFunction (mg := X.mg) (c := c) (P := P) (ps := ps) (closure_ok hfree) I.ok.glob (I.mod.glob.keeps I.bk) hcode (TB.code.keeps I.bk) hP' ht among TB.gP hB fun c' ctv h' tk hx hge hlt hrec htb => ?_
    obtain ⟨c2, oc, vs, t, e2, hoc, hd, hv⟩ := hrec
    cases e2
    have nC : H c' = none := I.hok.fresh hge
    have J := inv_table (t' := tk) (more := #[rawInt pos.line, rawInt pos.col, .ref c']) (h' := h') I hP hx htb hge ⟨oc, vs, t, hoc, hd, hv⟩
    have nPc : P ≠ c' := ne_of_none hP nC
    have e1 : ExtN H (upd (upd H P (.tbl (ps ++ #[rawInt pos.line, rawInt pos.col, .ref c']))) c' (CodeO c' (X.env.qual ++ "<lambda>"))) := fun b o e n => by
      rw [upd_ne (ne_of_none e nC), upd_ne fun z => n ps (by rw [z, hP] at e; exact (Option.some.inj e).symm)]
      exact e
    have eL : (ps ++ #[rawInt pos.line, rawInt pos.col, .ref c']).toList = ps.toList ++ [rawInt pos.line, rawInt pos.col, .ref c'] := by simp
    have T1 : Tabs T (upd (upd H P (.tbl (ps ++ #[rawInt pos.line, rawInt pos.col, .ref c']))) c' (CodeO c' (X.env.qual ++ "<lambda>"))) := fun p hp => by
      by_cases hb : p.1 = P
      · rw [hu p hp hb, hb]
        refine ⟨_, by rw [upd_ne nPc, upd_same], by rw [eL]; exact PySem.TriplesOk_snoc _ _ _ _ ht, fun p' cv hcv => ?_⟩
        rw [eL] at hcv
        rcases among_app _ ht hcv with z | z
        · obtain ⟨c0, g1, g2⟩ := ha p' cv z
          exact ⟨c0, g1, e1 _ _ g2 codeO_ne⟩
        · exact ⟨c', z, upd_same⟩
      · obtain ⟨qs, a1, a2, a3⟩ := hT p hp
        refine ⟨qs, by rw [upd_ne (ne_of_none a1 nC), upd_ne hb]; exact a1, a2, fun p' cv hcv => ?_⟩
        obtain ⟨c0, g1, g2⟩ := a3 p' cv hcv
        exact ⟨c0, g1, e1 _ _ g2 codeO_ne⟩
    have nf := J.hok.fresh (Nat.le_refl _)
    have J2 := inv_lam (F := ⟨X.env.qual ++ "<lambda>", params, body, scope, cloFrom X.env.cells scope.names [], c'⟩) (pm := (X.mg "__name__").getD .none) (ctv := ctv) (t' := tk) J
    have keep := fun b o (e : upd (upd H P (.tbl (ps ++ #[rawInt pos.line, rawInt pos.col, .ref c']))) c' (CodeO c' (X.env.qual ++ "<lambda>")) b = some o) =>
      (show upd (upd (upd H P (.tbl (ps ++ #[rawInt pos.line, rawInt pos.col, .ref c']))) c' (CodeO c' (X.env.qual ++ "<lambda>"))) h'.objs.size (LamO h'.objs.size ⟨X.env.qual ++ "<lambda>", params, body, scope, cloFrom X.env.cells scope.names [], c'⟩) b = some o by rw [upd_ne (ne_of_none e nf)]; exact e)
    refine h _ c' _ _ J2 (e1.trans (ExtN.of keep)) (T1.ext keep) ?_ upd_same (keep _ _ upd_same)
    exact I.hok.fresh (Nat.le_trans hge (Nat.le_of_lt hlt))
end
/-- lambda ..: body, as a value -/
def tLamV (T : List (Addr × Str)) (mk : Addr → LF) : TE := fun _ H Q => Tabs T H ∧ ∀ (f c' : Addr) (H1 : Hp), ExtN H H1 → Tabs T H1 → H f = none → H1 f = some (LamO f (mk c')) → H1 c' = some (CodeO c' (mk c').qual) → Q (.ref f) H1
/-- the outer's scope has the names that the lambda captures -/
def freeB (sc nsc : Scope) : Bool := nsc.names.all fun y => !decide (y.2 = .free) || decide (sc.names.lookup y.1 = some .cell) || decide (sc.names.lookup y.1 = some .free)
theorem free_of {sc nsc : Scope} (h : freeB sc nsc = true) : ∀ y ∈ nsc.names, y.2 = .free → sc.names.lookup y.1 = some .cell ∨ sc.names.lookup y.1 = some .free := by
  unfold freeB at h
  simp only [Bool.or_eq_true, Bool.not_eq_true', decide_eq_true_eq, decide_eq_false_iff_not, List.all_eq_true] at h
  intro y hy e
  rcases h y hy with (z | z) | z
  · exact absurd e z
  · exact .inl z
  · exact .inr z
theorem pe_lam {X : Cx} {T : List (Addr × Str)} {c P : Addr} {q : Str} {params : Arguments} {body : Expr} {scope : Scope} {pos : Pos} (TB : TabB X.base X.mg c P) (hcode : X.env.code = .ref c) (hq : X.env.qual ++ "<lambda>" = q) (hm : (P, q) ∈ T) (hu : ∀ p ∈ T, p.1 = P → p.2 = q)
    (hdef : defaultsOf params X.env = ([], [])) (hf : freeB X.env.scope scope = true) : PE X (.Lambda params body scope pos) (tLamV T fun c' => ⟨q, params, body, scope, cloFrom X.env.cells scope.names [], c'⟩) := by
  refine ⟨fun pins s σ H Q I h => ?_⟩
  obtain ⟨hT, h⟩ := h
  have hfr : ∀ y ∈ scope.names, y.2 = .free → ∃ c, X.env.cells.lookup y.1 = some c := fun y hy e => (free_of hf y hy e).elim (fun z => I.ok.has _ (.inl z)) fun z => I.ok.has _ (.inr z)
  exact lam_mk I TB hcode hq hm hu hT hdef hfr fun f c' H1 s' J e1 e2 e3 e4 e5 => ⟨.ref f, H1, J, rfl, h f c' H1 e1 e2 e3 e4 e5⟩

/-! ### what it promises -/
/-- a lambda's promise: called with one row of values, while its object and its code object stand -/
structure LOk (P : Program) (w : World) (K : PySem.W.Frag) (mg : Str → Option Value) (base : Heap) (k : Nat) (f : Addr) (F : LF) (sp : Sp) : Prop where
  run : ∀ (A : Around) (outer : List Env) (s : Shared) (H : Hp) (us : List Value) (vs : List V) (Q : VK), Room k A → Env0 P w K mg base A outer s H → H f = some (LamO f F) → H F.c = some (CodeO F.c F.qual) → Vals vs us → sp vs H Q E0 →
    codeAny (model P w) A (.call (.ref f) ⟨us, []⟩) (CR CX0 outer P w H s Q E0) s
theorem LOk.mono {P : Program} {w : World} {K : PySem.W.Frag} {mg : Str → Option Value} {base : Heap} {j k : Nat} {f : Addr} {F : LF} {sp : Sp} (L : LOk P w K mg base j f F sp) (h : j ≤ k) : LOk P w K mg base k f F sp :=
  ⟨fun A outer s H us vs Q hr => L.run A outer s H us vs Q (hr.mono h)⟩
/-- what the captured cells hold, in the ground -/
structure CellsB (base : Heap) (cl : List (Str × Addr)) (fr : List Str) (ws : List (Option V)) : Prop where
  len : ws.length = fr.length
  all : ∀ y c, cl.lookup y = some c → ∃ v, base.IsCell c v
  inj : ∀ x y c, cl.lookup x = some c → cl.lookup y = some c → x = y
  has : ∀ (i : Nat) (y : Str), fr[i]? = some y → ∃ c, cl.lookup y = some c ∧ ∀ v, ws[i]? = some (some v) → ∃ u, RelV v u ∧ base.IsCell c (some u)
theorem CellsB.nil {base : Heap} : CellsB base [] [] [] := ⟨rfl, fun y c h => (by cases h), fun x y c h => (by cases h), fun i y h => (by simp at h)⟩
theorem CellsB.at {base : Heap} {cl : List (Str × Addr)} {fr : List Str} {ws : List (Option V)} (C : CellsB base cl fr ws) {h : Heap} {H : Hp} (bs : ∀ b o, base.get? b = some o → h.get? b = some o ∧ H b = none) : NdefX.CellsAt cl fr ws h H := by
  refine ⟨C.len, fun y c e => ?_, C.inj, fun i y e => ?_⟩
  · obtain ⟨v, o, ho, hd⟩ := C.all y c e
    exact ⟨(bs c o ho).2, v, o, (bs c o ho).1, hd⟩
  · obtain ⟨c, hc, hv⟩ := C.has i y e
    refine ⟨c, hc, fun v ev => ?_⟩
    obtain ⟨u, r, o, ho, hd⟩ := hv v ev
    exact ⟨u, r, o, (bs c o ho).1, hd⟩
theorem lok_of {P : Program} {w : World} {K : PySem.W.Frag} {mg : Str → Option Value} {base : Heap} {k : Nat} {f : Addr} {F : LF} {N ps fr : List Str} {ws : List (Option V)} {sp : Sp} (S : NdefX.NScope N ps fr F.scope) (len : ∀ vs H Q E, sp vs H Q E → vs.length = ps.length)
    (hb : ∀ (pm ctv : Value) (us : List Value), us.length = ps.length → bindArgs (PySem.W.kla_fn "<lambda>" F.qual F.params F.body F.scope F.cl pm (.ref F.c) ctv) ⟨us, []⟩ = pure (ps.zip us)) (C : CellsB base F.cl fr ws)
    (hbody : ∀ (A : Around) (outer : List Env) (s : Shared) (H : Hp) (vs : List V) (Q : VK), Room k (A.deeper (NdefX.envF F.nf f s.heap.objs.size)) → sp vs H Q E0 →
      ∃ t, PE (NdefX.ncx CX0 P w K mg base N F.nf f A outer s H E0).nox F.body t ∧ t (NdefX.startF N vs ws) H Q) : LOk P w K mg base (k + 1) f F sp := by
  refine ⟨fun A outer s H us vs Q hr e0 hf hc r hsp => ?_⟩
  have hl := len _ _ _ _ hsp
  obtain ⟨pm, ctv, ho⟩ := lamO_at e0.hok hf
  have lim : s.heap.NoLimit := e0.mod.nolimit.keeps fun b o e => (e0.bs b o e).1
  refine PySem.W.kla_callFunE hr.depth ho rfl S.co S.gen rfl (code_at e0.hok hc) ?_
  rw [hb pm ctv us (by rw [← r.length]; exact hl)]
  refine wpAny_pure (wpAny_newFunctionEnv S.nocell (fun ⟨n, _⟩ hy => S.par n (List.of_mem_zip hy).1) (fun h1 hns hsb => ⟨lim.fresh _ hsb, ?_⟩) S.kind)
  show codeAny _ _ (.expr F.body (NdefX.envF F.nf f s.heap.objs.size)) _ _
  have kp : ∀ b o, s.heap.get? b = some o → h1.get? b = some o := fun b o e => hsb.extBut b o (Nat.ne_of_lt (Heap.lt_size e)) (Heap.get?_push_of_some _ e)
  obtain ⟨t, ht, hq⟩ := hbody A outer s H vs Q (hr.deeper _) hsp
  have I : Inv (NdefX.ncx CX0 P w K mg base N F.nf f A outer s H E0) [] (NdefX.startF N vs ws) H { s with heap := h1, toks := s.toks + (ps.zip us).length } := NdefX.inv_startN S hr.hd e0 hl r (C.at e0.bs) hns kp
  refine PySem.W.kla_codeExpr (wpAny_mono (ht.run [] _ _ H Q (I.wish _) hq) (fun v s' hv => ?_) fun e s' hf => hf.elim)
  obtain ⟨x, H', J, rv, q⟩ := hv
  have J := J.unwish
  exact ⟨x, H', J.os, J.bare, J.base, J.hok, rv, q⟩
/-- the lambda runs, from a body -/
theorem run_lam {X : Cx} {pins : List (Addr × Obj)} {σ : L2.St} {H : Hp} {s : Shared} {k : Nat} {f : Addr} {F : LF} {sp : Sp} {us : List Value} {vs : List V} {Q : VK} (L : LOk X.prog X.w X.K X.mg X.base k f F sp) (hr : Room k X.A) (I : Inv X pins σ H s)
    (hf : H f = some (LamO f F)) (hc : H F.c = some (CodeO F.c F.qual)) (r : Vals vs us) (q : sp vs H Q E0) : wpAny (model X.prog X.w) X.A (call (.ref f) us) (EP X pins σ Q) X.xe s := by
  refine wpAny_call (codeAny_mono (L.run X.A X.stack s H us vs Q hr I.env0 hf hc r q) fun r s' hq => ?_)
  cases r with
  | error e => exact False.elim hq
  | ok fl =>
    cases fl with
    | ret u => exact I.after hq
    | next => exact False.elim hq
    | brk => exact False.elim hq
    | cont => exact False.elim hq
/-- x(e), the slot i holds the lambda F at f -/
def tCallLam (i : Nat) (f : Addr) (F : LF) (sp : Sp) (t : TA) : TE := fun σ H Q => σ[i]? = some (some (.ref f)) ∧ H f = some (LamO f F) ∧ t σ H fun vs H1 => H1 f = some (LamO f F) ∧ H1 F.c = some (CodeO F.c F.qual) ∧ sp vs H1 Q E0
theorem pe_callLam {X : Cx} {k i : Nat} {f : Addr} {F : LF} {sp : Sp} {x : Str} {p pos : Pos} {e : Expr} {es : List Expr} {t : TA} (L : LOk X.prog X.w X.K X.mg X.base k f F sp) (hr : Room k X.A) (hN : X.N[i]? = some x) (hv : Vis X.env.scope x) (ha : PA X (e :: es) t)
    (hd : (x == ("__debug__" : Str)) = false := by decide) (hcd : (x == ("__classdict__" : Str)) = false := by decide)
    (he : starEach (e :: es) X.env = (false, eval e X.env) :: starEach es X.env := by rfl) (hpl : (backTo pos (starEach es X.env)).any (·.1) = false := by rfl) :
    PE X (.Call (.Name x p) (e :: es) [] pos) (tCallLam i f F sp t) := by
  refine ⟨fun pins s σ H Q I h => ?_⟩
  obtain ⟨hs, hf, ht⟩ := h
  refine wpAny_Call_Name_kw (thn ((pe_var (pos := p) hN hv hd hcd).run pins s σ H (fun v H1 => v = .ref f ∧ H1 = H) I ⟨.ref f, hs, rfl, rfl⟩) fun u s1 ⟨v, H1, I1, r1, q1⟩ => ?_)
  obtain ⟨rfl, rfl⟩ := q1
  obtain rfl : u = Value.ref f := r1
  have at_ : ∀ {s : Shared} {H : Hp} {σ : L2.St}, Inv X pins σ H s → H f = some (LamO f F) → PySem.W.FnAt f s.heap := fun I e => by
    obtain ⟨pm, ctv, ho⟩ := lamO_at I.hok e
    exact ⟨_, _, _, _, ho⟩
  refine PySem.W.callWith_F (first := []) (at_ I1 hf) (thn (ha.run pos pins s1 σ _ _ I1 ht) fun us s2 ⟨vs, H2, I2, r, h1, h2, q⟩ => ⟨at_ I2 h1, ?_⟩) he hpl
  exact run_lam L hr I2 h1 h2 r q
end Cm
end

section
/-! sorted(xs, key=a lambda that gives a number and a text). -/
namespace Cm
open PySem PySem.Spec PyProof.Rows L2 LamX

def kd (z : Int × Str) : PyData := .tuple [.int z.1, .str z.2]
def kLt (a b : Int × Str) : Prop := a.1 < b.1 ∨ (a.1 = b.1 ∧ a.2.cps.toList < b.2.cps.toList)
theorem kd_lt (a b : Int × Str) : PySem.W.dataLt (kd a) (kd b) = decide (a.1 < b.1 ∨ (a.1 = b.1 ∧ a.2.cps.toList < b.2.cps.toList)) := by
  unfold kd
  rw [PySem.W.dataLt_pair (by simp [PySem.W.alike]) (by simp [PySem.W.alike]), PySem.W.dataLt_int, PySem.W.dataLt_str]
  simp only [PyData.eqv, beq_iff_eq]
  by_cases h1 : a.1 = b.1
  · rw [if_pos h1]
    by_cases h2 : a.2 = b.2
    · rw [if_pos h2, h1, h2]
      have n1 : ¬ b.1 < b.1 := by omega
      have n2 := ll_irrefl b.2.cps.toList
      simp [n1]
    · rw [if_neg h2]
      have n1 : ¬ a.1 < b.1 := by omega
      simp [n1, h1]
  · rw [if_neg h1]
    simp [h1]
theorem kd_alike (l : List V) (key : V → Int × Str) : PySem.W.AllAlike (l.map fun x => kd (key x)) := PySem.W.AllAlike.of fun a b => by simp [kd, PySem.W.alike, PySem.W.alikeAll]
theorem kd_sortable (l : List V) (key : V → Int × Str) : PySem.W.Sortable (l.map fun x => kd (key x)) := PySem.W.Sortable.tuples fun b => ⟨_, _, rfl⟩
theorem kd_reads {P : Program} {w : World} {H : Hp} {h : Heap} {p : Addr} {z : Int × Str} (hok : HOk P w H h) (e : H p = some (.tup [.int z.1, .str z.2])) : ∃ as, Reads h (.ref p) (kd z) as := by
  obtain ⟨_, its, r, o, ho, hc, n, hd⟩ := hok p _ e
  obtain ⟨u1, u2, rfl, ⟨t1, rfl⟩, ⟨t2, rfl⟩⟩ := vals2 r
  exact ⟨_, Reads.tuple ho hc hd (ReadsAll.cons (Reads.int _ _) (ReadsAll.cons (Reads.str _ _) ReadsAll.nil))⟩
theorem le_of_data (key : V → Int × Str) {l : List V} : (l.mergeSort (PySem.W.dataLe false fun x => kd (key x))).Perm l ∧ (l.mergeSort (PySem.W.dataLe false fun x => kd (key x))).Pairwise fun a b => ¬ kLt (key b) (key a) := by
  refine ⟨List.mergeSort_perm _ _, (PySem.W.sort_pairwise (PySem.W.sortLe_total _ _ _) l).imp fun {a b} h => ?_⟩
  have h' : (!PySem.W.dataLt (kd (key b)) (kd (key a))) = true := h
  rw [kd_lt] at h'
  intro z
  rw [decide_eq_true (show (key b).1 < (key a).1 ∨ ((key b).1 = (key a).1 ∧ (key b).2.cps.toList < (key a).2.cps.toList) from z)] at h'
  cases h'
theorem vals_each : ∀ {us : List Value} {xs : List V}, Vals xs us ↔ PySem.W.EachIs (fun u x => RelV x u) us xs
  | us, xs => ⟨fun h => by induction h with
      | nil => exact .nil
      | cons r _ ih => exact .cons r ih, fun h => by induction h with
      | nil => exact .nil
      | cons r _ ih => exact .cons r ih⟩
/-- sorted(xs, key=f) -/
def rSortL (X : Cx) (k : Nat) : List V → List V → Hp → VK → Prop := fun xs zs H Q => ∃ (a f : Addr) (F : LF) (sp : Sp) (items : List V) (key : V → Int × Str), xs = [.ref a] ∧ zs = [.ref f] ∧ H f = some (LamO f F) ∧ H F.c = some (CodeO F.c F.qual) ∧ SqL X.K H a items ∧
  LOk X.prog X.w X.K X.mg X.base k f F sp ∧ (∀ x ∈ items, ∀ H1, Same H H1 → ∀ Q1 : VK, (∀ p H2, Same H1 H2 → H2 p = some (.tup [.int (key x).1, .str (key x).2]) → Q1 (.ref p) H2) → sp [x] H1 Q1 E0) ∧
  ∀ (out : List V) (p : Addr) (H1 : Hp), Same H H1 → H1 p = none → out.Perm items → (out.Pairwise fun a b => ¬ kLt (key b) (key a)) → Q (.ref p) (upd H1 p (.lst out))
theorem cr_sortL {X : Cx} {k : Nat} (hr : Room (k + 2) X.A) : CallRK X (.builtin "sorted") [Str.ofString "key"] (rSortL X k) := by
  intro pins s σ H xs zs us ws Q I r rz h
  obtain ⟨a, f, F, sp, items, key, rfl, rfl, hf, hc, hs, L, hk, q⟩ := h
  obtain rfl := Vals.ref1 r
  obtain rfl := Vals.ref1 rz
  obtain ⟨its, rv, hl, hz⟩ := I.list hs
  have hlen : its.length = items.length := rv.length.symm
  have hL : its.length ≤ sizeLine := by rw [hlen]; exact hz
  refine PySem.W.sorted_of_sort hl.isList hL (PyProof.Rows.ksk_s1 _ _) (fun _ => PyProof.Rows.ksk_l1 _ _) fun E' => ?_
  show wpAny _ _ (Builtin.«list.sort» ⟨[.ref (s.heap.objs.size + 1)], [(Str.ofString "key", .ref f)]⟩) _ _ _
  rw [PyProof.Rows.ksk_t1]
  have ho := PySem.W.copyHeap_at s.heap its
  have old0 : ∀ b o, s.heap.get? b = some o → (PySem.W.copyHeap s.heap its).get? b = some o := fun b o e => PySem.W.copyHeap_old e
  generalize hcp : PySem.W.copyHeap s.heap its = hp0 at ho old0 ⊢
  have hlt : s.heap.objs.size + 1 < hp0.objs.size := Heap.lt_size ho
  generalize hll : s.heap.objs.size + 1 = l at ho hlt ⊢
  have hsl : s.heap.objs.size ≤ l := by rw [← hll]; exact Nat.le_succ _
  unfold ksk_tree
  refine wpAny_bind (listItems_at ho rfl ?_)
  refine wpAny_bind (listUpdate_at ho rfl ?_ (by rw [List.size_toArray]; exact hL) (Nat.zero_le _))
  obtain ⟨e1, ho1⟩ : ∃ e1, (hp0.update l (Obj.mapSeq fun _ => (#[] : Array Value))).get? l = some (seqObj "list" #[] e1) := ⟨_, get?_update_seq ho fun _ => #[]⟩
  have old1 : ∀ b o, s.heap.get? b = some o → (hp0.update l (Obj.mapSeq fun _ => (#[] : Array Value))).get? b = some o := fun b o e => (Heap.get?_update_ne _ _ _ _ (Nat.ne_of_lt (Nat.lt_of_lt_of_le (Heap.lt_size e) hsl))).trans (old0 b o e)
  generalize hh1 : hp0.update l (Obj.mapSeq fun _ => (#[] : Array Value)) = hp1 at ho1 old1 ⊢
  refine wpAny_bind (seqEpoch_at ho1 rfl ?_)
  refine wpAny_bind (wpAny_newTuple ?_ (by show its.length ≤ _; exact hL))
  refine wpAny_bind (wpAny_newList ?_ (Nat.zero_le _))
  refine wpAny_holding ?_
  have old2 : ∀ b o, s.heap.get? b = some o → ((hp1.push { cls := .type "tuple", data := .seq its.toArray.toList.toArray }).push { cls := .type "list", data := .seq ([] : List Value).toArray }).get? b = some o := fun b o e => Heap.get?_push_of_some _ (Heap.get?_push_of_some _ (old1 b o e))
  have hk2 : ((hp1.push { cls := .type "tuple", data := .seq its.toArray.toList.toArray }).push { cls := .type "list", data := .seq ([] : List Value).toArray }).get? (hp1.push { cls := .type "tuple", data := .seq its.toArray.toList.toArray }).objs.size = some (seqObj "list" #[] 0) := Heap.get?_push_size _ rfl
  have hl2 : ((hp1.push { cls := .type "tuple", data := .seq its.toArray.toList.toArray }).push { cls := .type "list", data := .seq ([] : List Value).toArray }).get? l = some (seqObj "list" #[] e1) := Heap.get?_push_of_some _ (Heap.get?_push_of_some _ ho1)
  have hkl : l < (hp1.push { cls := .type "tuple", data := .seq its.toArray.toList.toArray }).objs.size := by rw [size_push']; exact Nat.lt_succ_of_lt (Heap.lt_size ho1)
  generalize hh2 : (hp1.push { cls := .type "tuple", data := .seq its.toArray.toList.toArray }).push { cls := .type "list", data := .seq ([] : List Value).toArray } = hp2 at old2 hk2 hl2 ⊢
  show wpAny _ _ (ksk_rest l (.ref f) false its.toArray e1 (.ref (hp1.push { cls := .type "tuple", data := .seq its.toArray.toList.toArray }).objs.size)) _ _ _
  generalize hkk : (hp1.push { cls := .type "tuple", data := .seq its.toArray.toList.toArray }).objs.size = kS at hk2 hkl ⊢
  have hskS : s.heap.objs.size ≤ kS := Nat.le_trans hsl (Nat.le_of_lt hkl)
  have hneq : kS ≠ l := Nat.ne_of_gt hkl
  have J0 : Inv X pins σ H { s with heap := hp2 } := I.kept old2
  have far : ∀ {b : Addr} {o : Obj} {c : Addr}, s.heap.get? b = some o → s.heap.objs.size ≤ c → b ≠ c := fun e h => Nat.ne_of_lt (Nat.lt_of_lt_of_le (Heap.lt_size e) h)
  have pinOk : ∀ {c : Addr}, s.heap.objs.size ≤ c → ∀ p ∈ X.pn ++ pins, p.1 ≠ c := fun h p hp => far (I.pin p hp).1 h
  have locOk : ∀ {c : Addr}, s.heap.objs.size ≤ c → c ≠ X.env.locals := fun h z => Nat.lt_irrefl _ (Nat.lt_of_lt_of_le (by have := I.lt; rw [← z] at this; exact this) h)
  have fsOk : ∀ {c : Addr}, s.heap.objs.size ≤ c → c ∉ X.fs := fun h => I.nofs h
  have freshOk : ∀ {c : Addr}, s.heap.objs.size ≤ c → H c = none := fun h => I.hok.fresh h
  have s0Ok : ∀ {c : Addr}, s.heap.objs.size ≤ c → c ∈ X.ex ∨ X.s_0.heap.objs.size ≤ c := fun h => .inr (Nat.le_trans I.sz h)
  have cellOk : ∀ {s' : Shared} {H' : Hp} {pn : List (Addr × Obj)} {c : Addr} {xs : Array Value} {n : Nat}, Inv X pn σ H' s' → s'.heap.get? c = some (seqObj "list" xs n) → ∀ x c', X.env.cells.lookup x = some c' → c' ≠ c := fun J e x c' hc' z => by
    obtain ⟨v, o, ho, hd⟩ := J.cell x c' hc'
    rw [z, e] at ho
    cases ho
    cases hd
  have hrA : Room k X.A.in1.in1 := (show Room (k + 1 + 1) X.A from hr).in1.in1
  unfold ksk_rest
  refine wpAny_bind (wpAny_rule ?_)
  first
    | rw [List.forIn_toArray]
    | rw [← Array.forIn_toList]
  refine wpAny_bind (ksk_fold (fun i s' => ∃ (H' : Hp) (kA : Array Value) (n : Nat), Inv X ((l, seqObj "list" #[] e1) :: pins) σ H' s' ∧ Same H H' ∧ H' kS = none ∧ s'.heap.get? kS = some (seqObj "list" kA n) ∧
      Paired (fun (x : V) (u : Value) => ∃ p, u = .ref p ∧ H' p = some (.tup [.int (key x).1, .str (key x).2])) (items.take i) kA.toList) its 0 _ ?start ?step ?done)
  case start =>
    refine ⟨H, #[], 0, J0.pins_of fun p hp => ?_, Same.refl H, freshOk hskS, hk2, by rw [List.take_zero]; exact .nil⟩
    rcases List.mem_cons.mp hp with z | z
    · subst z
      exact ⟨hl2, freshOk hsl, locOk hsl, fsOk hsl, fun v z => nomatch z⟩
    · exact J0.pin p (List.mem_append_right _ z)
  case step =>
    rintro j x s' hx ⟨H', kA, n, J, hS, hnk, hgk, hp⟩
    simp only [Nat.zero_add] at hp ⊢
    have hj : j < its.length := (List.getElem?_eq_some_iff.mp hx).1
    have hy : items[j]? = some (items[j]'(by omega)) := List.getElem?_eq_getElem _
    generalize items[j]'(by omega) = y at hy
    obtain ⟨u0, hu0, ry⟩ := rv.get hy
    rw [hx] at hu0
    obtain rfl := Option.some.inj hu0
    have J' : Inv X ((kS, seqObj "list" kA n) :: (l, seqObj "list" #[] e1) :: pins) σ H' s' := J.pins_of fun p hp => by
      rcases List.mem_cons.mp hp with z | z
      · subst z
        exact ⟨hgk, hnk, locOk hskS, fsOk hskS, fun v z => nomatch z⟩
      · exact J.pin p (List.mem_append_right _ z)
    have run : wpAny (model X.prog X.w) X.A.in1.in1 (call (.ref f) [x]) (fun u s2 => ∃ (H2 : Hp) (p : Addr), u = .ref p ∧ Inv X ((kS, seqObj "list" kA n) :: (l, seqObj "list" #[] e1) :: pins) σ H2 s2 ∧ Same H' H2 ∧ H2 p = some (.tup [.int (key y).1, .str (key y).2])) (fun _ _ => False) s' := by
      refine wpAny_call (codeAny_mono (L.run X.A.in1.in1 X.stack s' H' [x] [y] (fun v H2 => Same H' H2 ∧ ∃ p, v = .ref p ∧ H2 p = some (.tup [.int (key y).1, .str (key y).2])) hrA J'.env0.in1.in1 (hS _ _ hf) (hS _ _ hc) (.cons ry .nil) (hk y (List.mem_of_getElem? hy) H' hS _ fun p H2 s2 e => ⟨s2, p, rfl, e⟩)) fun r s2 hq => ?_)
      cases r with
      | error e => exact hq
      | ok fl =>
        cases fl with
        | next => exact hq
        | brk => exact hq
        | cont => exact hq
        | ret u =>
          obtain ⟨v, H2, os, bare, un, hok, rv2, s2, p, rfl, e⟩ := hq
          exact ⟨H2, p, rv2, J'.call' (ch := []) os un hok bare (fun b z => absurd z (by simp)), s2, e⟩
    refine wpAny_bind (wpAny_attempt (wpAny_mono run (fun u s2 he => ?_) fun _ _ hF => hF.elim))
    obtain ⟨H2, p, rfl, J2, sm, ep⟩ := he
    obtain ⟨nk2, nn2, _⟩ := J2.pin (kS, seqObj "list" kA n) (List.mem_append_right _ List.mem_cons_self)
    have hsz : kA.size ≤ its.length := by
      have e := hp.length
      have el : kA.toList.length = kA.size := by simp
      rw [List.length_take, el] at e
      omega
    have hsL : kA.size ≤ sizeLine := Nat.le_trans hsz hL
    refine wpAny_bind (listUpdate_at nk2 rfl ?_ hsL (by rw [Array.size_push]; exact Nat.succ_le_succ hsL))
    obtain ⟨c2, hc2⟩ : ∃ c2, (s2.heap.update kS (Obj.mapSeq (·.push (Value.ref p)))).get? kS = some (seqObj "list" (kA.push (Value.ref p)) c2) := ⟨_, get?_update_seq nk2 (·.push (Value.ref p))⟩
    have J3 : Inv X ((l, seqObj "list" #[] e1) :: pins) σ H2 { s2 with heap := s2.heap.update kS (Obj.mapSeq (·.push (Value.ref p))), toks := s2.toks } := by
      refine (J2.pins_of (pins' := (l, seqObj "list" #[] e1) :: pins) fun p hp => J2.pin p (List.mem_append_right _ (List.mem_cons_of_mem _ hp))).turned (it := kS) (fun b o hb e => (Heap.get?_update_ne _ _ _ _ hb).trans e) nn2 (locOk hskS) (s0Ok hskS) (cellOk J2 nk2) fun p hp => ?_
      rcases List.mem_append.mp hp with z | z
      · exact pinOk hskS p (List.mem_append_left _ z)
      · rcases List.mem_cons.mp z with z | z
        · rw [z]; exact hneq.symm
        · exact pinOk hskS p (List.mem_append_right _ z)
    refine wpAny_pure ⟨rfl, H2, kA.push (Value.ref p), c2, J3, hS.trans sm, nn2, hc2, ?_⟩
    have e1 : items.take (j + 1) = items.take j ++ [y] := by rw [List.take_add_one, hy] <;> rfl
    rw [e1, Array.toList_push]
    exact (Paired.mono (fun a b ⟨q, e, h⟩ => ⟨q, e, sm _ _ h⟩) hp).snoc ⟨p, rfl, ep⟩
  case done =>
    rintro s' ⟨H', kA, n, J, hS, hnk, hgk, hp⟩
    rw [Nat.zero_add, hlen, List.take_length] at hp
    obtain ⟨nl, nln, _⟩ := J.pin (l, seqObj "list" #[] e1) (List.mem_append_right _ List.mem_cons_self)
    have nl : s'.heap.get? l = some (seqObj "list" #[] e1) := nl
    have nln : H' l = none := nln
    obtain ⟨h1, g1, g2⟩ := restrict s'.heap fun b => decide (b ≠ kS)
    have kp : PySem.W.KeepsBut l h1 s'.heap := fun b o hb e => by
      by_cases c : b = kS
      · rw [c, g2 kS (by simp)] at e
        cases e
      · rw [g1 b (decide_eq_true c)] at e
        exact e
    have e' : PySem.W.EachIs (fun v d => ∃ as, Reads s'.heap v d as) kA.toList (items.map fun x => kd (key x)) := by
      have gen : ∀ {xs : List V} {us : List Value}, Paired (fun (x : V) (u : Value) => ∃ p, u = .ref p ∧ H' p = some (.tup [.int (key x).1, .str (key x).2])) xs us → PySem.W.EachIs (fun v d => ∃ as, Reads s'.heap v d as) us (xs.map fun x => kd (key x)) := by
        intro xs us h
        induction h with
        | nil => exact .nil
        | cons r _ ih =>
          obtain ⟨p, rfl, e⟩ := r
          exact .cons (kd_reads J.hok e) ih
      exact gen hp
    have hsz : kA.size = its.length := by
      have e := hp.length
      have el : kA.toList.length = kA.size := by simp
      omega
    have hu : ∀ d, d ∈ (items.map fun x => kd (key x)) → X.A.in1.in1.units + d.depth < cLine := fun d hd => by
      obtain ⟨x, _, rfl⟩ := List.mem_map.mp hd
      have := hrA.un
      show X.A.in1.in1.units + 1 < cLine
      omega
    refine wpAny_bind (listItems_at hgk rfl ?_)
    refine PySem.W.keyH_end (κ := PySem.W.dataKind s'.heap (items.map fun x => kd (key x))) (h₁ := h1) kp (g2 kS (by simp)) hgk nl hneq (PySem.W.SortsAt.data (s := s') e' (kd_alike items key) (kd_sortable items key) hu) hsz hL fun h3 tk c kp3 hl3 => ⟨rfl, ?_⟩
    have ko : PySem.W.KeyedOut false (items.map fun x => kd (key x)) its (PySem.W.sortVals (PySem.W.dataKind s'.heap (items.map fun x => kd (key x))) false kA.toList its) := ⟨s'.heap, kA.toList, kd_alike items key, rfl, e'⟩
    have hv := vals_each.mpr (PySem.W.keyedOut_each (fun x => kd (key x)) ko (vals_each.mp rv))
    obtain ⟨pm, pw⟩ := le_of_data key (l := items)
    generalize items.mergeSort (PySem.W.dataLe false fun x => kd (key x)) = out at hv pm pw
    have old3 : ∀ b o, b ≠ l → b ≠ kS → s'.heap.get? b = some o → h3.get? b = some o := fun b o b1 b2 e => kp3 b o b1 (by rw [g1 b (decide_eq_true b2)]; exact e)
    have nt : ∀ {b : Addr} {o : HO}, H' b = some o → b ≠ l ∧ b ≠ kS := fun e => ⟨ne_of_none e nln, ne_of_none e hnk⟩
    have Jp : Inv X pins σ H' s' := J.pins_of fun p hp => J.pin p (List.mem_append_right _ (List.mem_cons_of_mem _ hp))
    have Jf : Inv X pins σ (upd H' l (.lst out)) { s' with heap := h3, gens := s'.gens, drawn := s'.drawn, toks := tk } := by
      refine Jp.step (ch := [l, kS]) (fun b hb => ?_) (fun b o _ _ hc e _ => ?_) (fun b o _ _ hc e _ => ?_) (fun b o hc e nb => ?_) (fun b o hc e => ?_) (fun b xs e => ?_) (fun b o u e => ?_) (fun b ps e => ?_) (fun m hm => ?_) (fun b o e => ?_) J.bare
      · rcases List.mem_cons.mp hb with z | z
        · rw [z]; exact ⟨s0Ok hsl, locOk hsl, cellOk J nl, pinOk hsl⟩
        · rw [List.mem_singleton.mp z]; exact ⟨s0Ok hskS, locOk hskS, cellOk J hgk, pinOk hskS⟩
      · exact old3 b o (fun z => hc (by simp [z])) (fun z => hc (by simp [z])) e
      · exact ⟨o.slots, old3 b o (fun z => hc (by simp [z])) (fun z => hc (by simp [z])) e⟩
      · rw [upd_ne fun z => hc (by simp [z])]; exact nb
      · exact ⟨o, old3 b o (fun z => hc (by simp [z])) (fun z => hc (by simp [z])) e⟩
      · rw [upd_ne (nt e).1]; exact e
      · rw [upd_ne (nt e).1]; exact e
      · exact ⟨#[], by rw [upd_ne (nt e).1, e]; simp⟩
      · obtain ⟨o, es, ep, ho, r⟩ := hm
        exact ⟨o, es, ep, old3 _ o (locOk hsl).symm (locOk hskS).symm ho, r⟩
      · by_cases hb : b = l
        · subst hb
          rw [upd_same] at e
          cases e
          exact ⟨by rw [pm.length_eq]; exact hz, _, c, hv, hl3⟩
        · rw [upd_ne hb] at e
          refine (J.hok b o e).stay (fun d v hd z => ?_) (fun d z => by rw [upd_ne (nt z).1]; exact z) fun d xs z => by rw [upd_ne (nt z).1]; exact z
          rcases hd with hd | hd
          · rw [hd] at z ⊢
            exact old3 b v (nt e).1 (nt e).2 z
          · exact old3 d v (nt hd).1 (nt hd).2 z
    exact ⟨.ref l, _, Jf, rfl, q out l H' hS nln pm pw⟩
end Cm
end

section
/-! A def called with a lambda over this frame's cells: the cells go into the callee's ground. -/
namespace Cm
open PySem PySem.Spec PyProof.Rows L2 LamX

theorem fnok_ex {ι : Type} {P : Program} {w : World} {K : PySem.W.Frag} {mg : Str → Option Value} {base : Heap} {CX : CXT} {k : Nat} {f : Addr} {fd : FuncData} {ps : List Str} {sp : ι → Sp} (h : ∀ i, FnOk P w K mg base CX k f fd ps (sp i)) :
    FnOk P w K mg base CX k f fd ps (fun vs H Q E => ∃ i, sp i vs H Q E) :=
  ⟨fun vs H Q E ⟨i, q⟩ => (h i).len vs H Q E q, fun A outer s H as us vs Q E hr e0 hb r ⟨i, q⟩ => (h i).run A outer s H as us vs Q E hr e0 hb r q⟩

section
variable {X : Cx} {pins : List (Addr × Obj)} {σ : L2.St} {H : Hp} {s : Shared}
theorem ground_cells {cl : List (Str × Addr)} {fr : List Str} {ws : List (Option V)} (I : Inv X pins σ H s) (sub : ∀ y c, cl.lookup y = some c → X.env.cells.lookup y = some c) (hfn : ∀ x, X.fn x = true) (C : NdefX.CellsAt cl fr ws s.heap H) :
    ∃ B : Heap, Env0 X.prog X.w X.K X.mg B X.A X.stack s H ∧ CellsB B cl fr ws ∧ ∀ b o, X.base.get? b = some o → B.get? b = some o := by
  let p : Addr → Bool := fun b => (X.base.get? b).isSome || cl.any fun q => decide (cl.lookup q.1 = some b)
  let l : List Addr := (List.range s.heap.objs.size).filter fun b => !p b
  have inl : ∀ b, b ∈ l → p b = false := fun b hb => by
    have := (List.mem_filter.mp hb).2
    simpa using this
  have get : ∀ {b : Addr} {o : Obj}, s.heap.get? b = some o → p b = true → (PySem.W.hideAll s.heap l).get? b = some o := fun e h => PySem.W.hideAll_get l e fun m => by rw [inl _ m] at h; cases h
  have back : ∀ {b : Addr} {o : Obj}, (PySem.W.hideAll s.heap l).get? b = some o → s.heap.get? b = some o ∧ p b = true := fun {b o} e => by
    have e1 := PySem.W.of_hideAll l e
    refine ⟨e1, ?_⟩
    cases h : p b with
    | true => rfl
    | false =>
      have m : b ∈ l := List.mem_filter.mpr ⟨List.mem_range.mpr (Heap.lt_size e1), by rw [h]; rfl⟩
      rw [PySem.W.hideAll_none l m] at e
      cases e
  have pb : ∀ {b : Addr} {o : Obj}, X.base.get? b = some o → p b = true := fun {b o} e => by
    show ((X.base.get? b).isSome || _) = true
    rw [e] <;> rfl
  have pc : ∀ {y : Str} {c : Addr}, cl.lookup y = some c → p c = true := fun {y c} e => by
    have : (cl.any fun q => decide (cl.lookup q.1 = some c)) = true := List.any_eq_true.mpr ⟨(y, c), PySem.mem_of_lookup e, decide_eq_true e⟩
    show (_ || _) = true
    rw [this, Bool.or_true]
  have which : ∀ {b : Addr}, p b = true → (∃ o, X.base.get? b = some o) ∨ ∃ y, cl.lookup y = some b := fun {b} h => by
    have h : ((X.base.get? b).isSome || cl.any fun q => decide (cl.lookup q.1 = some b)) = true := h
    rcases Bool.or_eq_true_iff.mp h with z | z
    · exact .inl (Option.isSome_iff_exists.mp z)
    · obtain ⟨q, _, e⟩ := List.any_eq_true.mp z
      exact .inr ⟨q.1, of_decide_eq_true e⟩
  have keep : ∀ b o, X.base.get? b = some o → (PySem.W.hideAll s.heap l).get? b = some o := fun b o e => get (I.bk b o e) (pb e)
  refine ⟨PySem.W.hideAll s.heap l, ⟨I.ok.frames, ⟨I.mod.kin.keeps keep, I.mod.glob.keeps keep, ?_, I.mod.nolimit.keeps keep⟩, fun b o e => ?_, Nat.le_of_eq (PySem.W.hideAll_size _ _), ?_, I.stkFree, I.hok, I.bare⟩, ⟨C.len, fun y c e => ?_, C.inj, fun i y e => ?_⟩, keep⟩
  · obtain ⟨mb, h1, h2⟩ := I.mod.blt
    exact ⟨mb, h1.keeps keep, h2⟩
  · obtain ⟨e1, h⟩ := back e
    refine ⟨e1, ?_⟩
    rcases which h with ⟨o', e2⟩ | ⟨y, e2⟩
    · exact (I.bs b o' e2).2
    · exact (C.all y b e2).1
  · refine funFrames_none I.stack fun L hL => ?_
    cases q : (PySem.W.hideAll s.heap l).get? L with
    | none => rfl
    | some o =>
      obtain ⟨e1, h⟩ := back q
      rcases which h with ⟨o', e2⟩ | ⟨y, e2⟩
      · have := (I.stack.mem hL).1
        rw [e2] at this
        cases this
      · have e3 := sub y L e2
        rcases List.mem_cons.mp (I.stkSub L hL) with z | z
        · exact absurd z (I.cne y L e3)
        · obtain ⟨_, o2, e4, _⟩ := I.ok.funs.mem z
          have a1 := Heap.lt_size e4
          have a2 := I.ok.cab y L (hfn y) e3
          exact absurd (Nat.lt_of_lt_of_le a1 a2) (Nat.lt_irrefl _)
  · obtain ⟨_, v, o, ho, hd⟩ := C.all y c e
    exact ⟨v, o, get ho (pc e), hd⟩
  · obtain ⟨c, hc, hv⟩ := C.has i y e
    refine ⟨c, hc, fun v ev => ?_⟩
    obtain ⟨u, r, o, ho, hd⟩ := hv v ev
    exact ⟨u, r, o, get ho (pc hc), hd⟩
end
/-- g(e, ..), where some argument is a lambda over this frame's cells -/
def tCallC (sp : List (Option V) → Sp) (js : List Nat) (t : TA) : TE := fun σ H Q => t σ H fun vs H1 => sp (js.map (NdefX.slotAt σ)) vs H1 Q E0
theorem pe_callC {X : Cx} {k : Nat} {g : Addr} {fd : FuncData} {ps : List Str} {sp : List (Option V) → Sp} {cl : List (Str × Addr)} {fr : List Str} {js : List Nat} {x : Str} {p pos : Pos} {e : Expr} {es : List Expr} {t : TA}
    (F : ∀ (B : Heap) (ws : List (Option V)), Mod X.K X.mg B → (∀ b o, X.base.get? b = some o → B.get? b = some o) → CellsB B cl fr ws → FnOk X.prog X.w X.K X.mg B CX0 k g fd ps (sp ws)) (cp : X.Ok → NdefX.Caps X cl fr js) (hfn : ∀ x, X.fn x = true) (hr : Room k X.A) (hg : Gl X x) (hm : X.mg x = some (.ref g)) (hk : PySem.W.keepIn X.K (.ref g) = true)
    (hb : Binds X.K fd ps []) (ha : PA X (e :: es) t) (hdb : (x == ("__debug__" : Str)) = false := by decide) (he : starEach (e :: es) X.env = (false, eval e X.env) :: starEach es X.env := by rfl) (hpl : (backTo pos (starEach es X.env)).any (·.1) = false := by rfl) :
    PE X (.Call (.Name x p) (e :: es) [] pos) (tCallC sp js t) := by
  refine ⟨fun pins s σ H Q I h => ?_⟩
  refine wpAny_Call_Name_kw (ld_glob I hg hm ?_ hdb)
  refine PySem.W.callWith_K (h₀ := X.base) I.ok.mod.kin hk (thn (ha.run pos pins s σ H _ I h) fun us s1 ⟨vs, H1, I1, r, q⟩ => ⟨I1.kIn, ?_⟩) he hpl
  obtain ⟨B, e0, C, bk⟩ := ground_cells I1 (cp I1.ok).sub hfn (NdefX.cells_of I1 (cp I1.ok))
  have F' := F B _ e0.mod bk C
  have hl : us.length = ps.length := by rw [← r.length]; exact F'.len _ _ _ _ q
  have hbt := hb s1 us I1.kIn (by rw [List.append_nil]; exact hl)
  rw [List.append_nil] at hbt
  show wpAny _ _ (call (.ref g) us) _ _ _
  refine wpAny_call (codeAny_mono (F'.run X.A X.stack s1 H1 ⟨us, []⟩ us vs Q E0 hr e0 hbt r q) fun r s' hq => ?_)
  cases r with
  | error e => exact False.elim hq
  | ok fl =>
    cases fl with
    | ret u => exact I1.after hq
    | next => exact False.elim hq
    | brk => exact False.elim hq
    | cont => exact False.elim hq

/-! ### a def whose code object's address is told -/
structure FunC (K : PySem.W.Frag) (x : Str) (st : Stmt) (f : Addr) (fd : FuncData) (c : Addr) : Prop where
  ex : ∃ (oc : Value) (od : Option Addr) (kV doc pm : Value) (an : Option Addr) (ct : Value) (osl : Array (Option Value)),
    fd = PySem.W.fnOf x x (defArgs st) (defBody st) (defScope st) .none kV doc pm an (.ref c) ct ∧ K.lookup f = some ⟨oc, od, .func fd, osl⟩ ∧ PySem.W.codeIn K (.ref c) x = true
  kp : PySem.W.keepIn K (.ref f) = true
theorem FunC.ok {P : Program} {w : World} {K : PySem.W.Frag} {mg : Str → Option Value} {base : Heap} {x : Str} {st : Stmt} {f c : Addr} {fd : FuncData} {N ps : List Str} {k : Nat} {sp : Sp} (F : FunC K x st f fd c) (S : FnScope N ps (defScope st)) (len : ∀ vs H Q E, sp vs H Q E → vs.length = ps.length)
    (hbody : ∀ (A : Around) (outer : List Env) (s : Shared) (H : Hp) (vs : List V) (Q : VK) (E : XK), Room k (A.deeper (envOfC x (defScope st) s.heap.objs.size f (.ref c))) → sp vs H Q E →
      ∃ t, PSs (cxOf CX0 P w K mg base N x (defScope st) f (.ref c) A outer s H E).nox (defBody st) t ∧ t { nx := fun _ H' => Q .non H', rt := Q } (start N vs) H) : FnOk P w K mg base CX0 (k + 1) f fd ps sp := by
  obtain ⟨oc, od, kV, doc, pm, an, ct, osl, rfl, lk, hcd⟩ := F.ex
  refine fn_of lk hcd S len fun A outer s H vs Q E hr hsp => ?_
  obtain ⟨t, h, q⟩ := hbody A outer s H vs Q E hr hsp
  exact ⟨t, h.nox, q⟩
theorem FunC.fun {K : PySem.W.Frag} {x : Str} {st : Stmt} {f c : Addr} {fd : FuncData} (F : FunC K x st f fd c) : Fun K x x st f fd := by
  obtain ⟨oc, od, kV, doc, pm, an, ct, osl, e, lk, hcd⟩ := F.ex
  exact ⟨⟨oc, od, kV, doc, pm, an, .ref c, ct, osl, e, lk, hcd⟩, F.kp⟩
end Cm
end

section
/-! Dicts whose keys are tuples: a display of one pair, dict(pairs), walks; one reading or another. -/
namespace Cm
open PySem PySem.Spec PyProof.Rows L2

theorem PE.or {X : Cx} {e : Expr} {t u : TE} (h : PE X e t) (h' : PE X e u) : PE X e (fun σ H Q => t σ H Q ∨ u σ H Q) :=
  ⟨fun pins s σ H Q I hw => hw.elim (fun z => h.run pins s σ H Q I z) fun z => h'.run pins s σ H Q I z⟩

/-! ### {k: v}, k a tuple -/
def tDisp1 (tk tv : TE) : TE := fun σ H Q => ∀ d, H d = none → tk σ (upd H d (.dT [])) fun x H1 => tv σ H1 fun y H2 => H2 d = some (.dT []) ∧ ∃ (b : Addr) (ks : List Key), x = .ref b ∧ H2 b = some (.tup (ks.map kV)) ∧ Q (.ref d) (upd H2 d (.dT [(ks, y)]))
theorem pe_disp1 {X : Cx} {k v : Expr} {pos : Pos} {tk tv : TE} (hu : X.A.units < cLine) (hk : PE X k tk) (hv : PE X v tv) : PE X (.Dict [some k] [v] pos) (tDisp1 tk tv) := by
  refine ⟨fun pins s σ H Q I q => ?_⟩
  have hn := I.hok.fresh (Nat.le_refl s.heap.objs.size)
  have I1 := I.laid (a := s.heap.objs.size) (o := .dT []) (h' := s.heap.push { cls := .type "dict", data := .dict #[] }) (t' := s.toks) (fun _ _ q => Heap.get?_push_of_some _ q) (Nat.le_refl _) (dt_empty s.heap I.big)
  have shape : (evalEachOpt [some k] X.env).zip ((evalEach [v] X.env).map fun v => do let x ← v; standAt pos; pure x) = (pairTrees [some k] [v] X.env pos).map fun p => (some p.1, p.2) := rfl
  rw [arm_eval_Dict, shape, dictDisplay_pairs (pairTrees [some k] [v] X.env pos) (by simp [pairTrees]) (by simp [pairTrees])]
  refine wpAny_bind (wpAny_standAt (wpAny_bind (wpAny_subDictH (knd := tupleKind (mixKind X.prog X.w)) (Q := fun d s' => wpAny (model X.prog X.w) X.A (pure (Value.ref d)) (EP X pins σ Q) X.xe s') hu (by simp [pairTrees]) ?_)))
  refine thn (((pps_cons hk hv pps_nil).run pins _ σ _ (fun ps H2 => match ps with
      | [(x, y)] => H2 s.heap.objs.size = some (.dT []) ∧ ∃ (b : Addr) (ks : List Key), x = .ref b ∧ H2 b = some (.tup (ks.map kV)) ∧ Q (.ref s.heap.objs.size) (upd H2 s.heap.objs.size (.dT [(ks, y)]))
      | _ => False) I1 (q _ hn))) fun ws s2 hh => ?_
  · obtain ⟨ps, H2, I2, rel, hh⟩ := hh
    obtain ⟨x, y, rfl⟩ : ∃ x y, ps = [(x, y)] := by
      match ps, hh with
      | [(x, y)], _ => exact ⟨x, y, rfl⟩
    obtain ⟨e, b, ks, rfl, eb, q2⟩ := hh
    cases rel with
    | cons r rr =>
      cases rr
      obtain ⟨r1, r2⟩ := r
      rename_i w0
      obtain ⟨w1, w2⟩ := w0
      obtain rfl : w1 = Value.ref b := r1
      obtain ⟨z, hd, xs, rel2, dd⟩ := dt_of I2.hok e
      cases rel2
      refine ⟨[(ks, b, w2)], ⟨rfl, rfl, key_of I2.hok eb, True.intro⟩, dd, fun h' tk dd' hs => wpAny_pure ?_⟩
      obtain ⟨o, es, ep, ho, h2, h3, h4, _, h5⟩ := dd'
      have nb : b ≠ s.heap.objs.size := ne_of eb e (fun z => nomatch z)
      refine ⟨.ref s.heap.objs.size, _, d_write (t' := tk) I2 (by rw [e]; exact True.intro) hs ⟨o, ho⟩ ?_, rfl, q2⟩
      exact ⟨(by show 1 ≤ sizeLine; decide), hd, [(ks, b, w2)], .cons ⟨rfl, by rw [upd_ne nb]; exact eb, r2⟩ .nil, o, es, ep, ho, h2, h3, h4, h5⟩

theorem KT.is {P : Program} {w : World} {H : Hp} {h : Heap} (ok : HOk P w H h) : ∀ {l : List (List Key × V)} {m : List (List Key × Addr × Value)}, KT H l m → ∀ x ∈ m, (tupleKind (mixKind P w)).is h x.1 x.2.1 := by
  intro l m q
  induction q with
  | nil => intro x hx; cases hx
  | @cons a b as bs hab _ ih =>
    intro x hx
    rcases List.mem_cons.mp hx with e | e
    · subst e
      exact key_of ok (by rw [← hab.1]; exact hab.2.1)
    · exact ih x e
/-! ### dict(xs), xs a list of pairs (tuple, value) -/
/-- the items are new tuples of a key and its value -/
def PairsAt (H : Hp) : List V → List (List Key × V) → Prop := Paired fun x kv => ∃ t b : Addr, x = .ref t ∧ H t = some (.tup [.ref b, kv.2]) ∧ H b = some (.tup (kv.1.map kV))
def rDictT (K : PySem.W.Frag) : List V → Hp → VK → Prop := fun xs H Q => ∃ (a : Addr) (items : List V) (kvs : List (List Key × V)), xs = [.ref a] ∧ SqL K H a items ∧ PairsAt H items kvs ∧ (kvs.map (·.1)).Nodup ∧ ∀ d, H d = none → Q (.ref d) (upd H d (.dT kvs))
theorem call_dictT {X : Cx} (hc : X.calm = true) (hu : X.A.units + 2 < cLine) : CallR X (.type "dict") (rDictT X.K) := by
  intro pins s σ H xs us Q I r h
  obtain ⟨a, items, kvs, rfl, hs, hp, hnd, q⟩ := h
  obtain rfl := Vals.ref1 r
  obtain ⟨its, rv, hl, hz⟩ := I.list hs
  -- the pairs as the machine sees them
  obtain ⟨ps, e1, e2, e3⟩ : ∃ ps : List (Addr × List Key × Addr × Value), its = ps.map (fun p => Value.ref p.1) ∧ KT H kvs (ps.map (·.2)) ∧ ∀ p ∈ ps, PairAt s.heap p.1 (.ref p.2.2.1) p.2.2.2 := by
    have gen : ∀ {xs : List V} {us : List Value} {ks : List (List Key × V)}, PairsAt H xs ks → Vals xs us → ∃ ps : List (Addr × List Key × Addr × Value), us = ps.map (fun p => Value.ref p.1) ∧ KT H ks (ps.map (·.2)) ∧ ∀ p ∈ ps, PairAt s.heap p.1 (.ref p.2.2.1) p.2.2.2 := by
      intro xs us ks hp
      unfold PairsAt at hp
      induction hp generalizing us with
      | nil => intro rv; cases rv; exact ⟨[], rfl, .nil, fun p h => (by cases h)⟩
      | @cons x kv xs ks h _ ih =>
        intro rv
        cases rv with
        | cons r1 rr =>
          obtain ⟨ps, i1, i2, i3⟩ := ih rr
          obtain ⟨t, b, rfl, h1, h2⟩ := h
          obtain rfl := (show _ = Value.ref t from r1)
          obtain ⟨_, us2, r2, o, ho, hcl, n, hd⟩ := I.hok t _ h1
          obtain ⟨u1, u2, rfl, r3, r4⟩ := vals2 r2
          obtain rfl := (show u1 = Value.ref b from r3)
          refine ⟨(t, kv.1, b, u2) :: ps, by rw [i1]; rfl, .cons ⟨rfl, h2, r4⟩ i2, fun p hp => ?_⟩
          rcases List.mem_cons.mp hp with z | z
          · rw [z]
            exact .inl ⟨o, ho, hcl, n, hd⟩
          · exact i3 p z
    exact gen hp rv
  subst e1
  have hlen : ps.length ≤ sizeLine := by
    have := rv.length
    rw [List.length_map] at this
    omega
  let Ts : Nat → Addr := fun j => match ps[j]? with | some p => p.1 | none => 0
  let vs : List (Value × Value) := ps.map fun p => (.ref p.2.2.1, p.2.2.2)
  have keysEq : (ps.map (·.2)).map (·.1) = kvs.map (·.1) := (paired_map (fun a b h => h.1) e2).symm
  have okk : PlainSeq "list" s.heap a (ps.map fun p => Value.ref p.1).toArray ∧ PairItems s.heap (ps.map fun p => Value.ref p.1).toArray Ts vs := by
    refine ⟨?_, by simp [vs], fun j k v e => ?_⟩
    · obtain ⟨o, n, h1, h2, h3, h4⟩ := hl
      exact ⟨o, n, h1, h2, h3, h4⟩
    · have e : (ps.map fun p => (Value.ref p.2.2.1, p.2.2.2))[j]? = some (k, v) := e
      rw [List.getElem?_map] at e
      cases c : ps[j]? with
      | none => rw [c] at e; cases e
      | some p =>
        rw [c] at e
        cases e
        have t : Ts j = p.1 := by show (match ps[j]? with | some p => p.1 | none => 0) = p.1; rw [c]
        rw [t]
        exact ⟨by simp [c], e3 p (List.mem_of_getElem? c)⟩
  refine call_dict_pairsH (knd := tupleKind (mixKind X.prog X.w)) (ps := ps.map (·.2)) (PairArg.list a _ Ts vs) (I.ok.hd hc) (show X.A.in1.in1.units < cLine from hu) okk ⟨by simp [vs], fun i key v e => ?_⟩ (fun h' hk x hx => ?_) (by simpa [vs] using hlen) fun h' tk hd' hk => ?_
  · have e : (ps.map fun p => (Value.ref p.2.2.1, p.2.2.2))[i]? = some (key, v) := e
    rw [List.getElem?_map] at e
    cases c : ps[i]? with
    | none => rw [c] at e; cases e
    | some p =>
      rw [c] at e
      cases e
      exact ⟨p.2.1, p.2.2.1, by rw [List.getElem?_map, c] <;> rfl, rfl⟩
  · have e4 := KT.is I.hok e2 x hx
    obtain ⟨o, its, n, ho, h1, h2, h3⟩ := e4
    exact ⟨o, its, n, hk _ o (Nat.ne_of_lt (Heap.lt_size ho)) (by simp) ho, h1, h2, h3⟩
  · rw [storedAllH_nil_of_nodup _ (by rw [keysEq]; exact hnd)] at hd'
    have hn := I.hok.fresh (Nat.le_refl s.heap.objs.size)
    have kp : ∀ b o, s.heap.get? b = some o → h'.get? b = some o := fun b o e => hk b o (by simp) e
    obtain ⟨o, es, ep, ho, h2, h3, h4, _, h5⟩ := hd'
    refine ⟨.ref s.heap.objs.size, _, I.laid (a := s.heap.objs.size) (o := .dT kvs) (t' := tk) kp (Nat.le_refl _) ⟨?_, ?_, ps.map (·.2), e2.keeps fun b ys e => by rw [upd_ne (ne_of_none e hn)]; exact e, o, es, ep, ho, h2, h3, h4, h5⟩, rfl, q _ hn⟩
    · have := e2.length
      rw [List.length_map] at this
      omega
    · exact beq_eq_false_iff_ne.mpr (Nat.ne_of_gt I.big)

/-! ### walks over the keys, the dict locked -/
theorem lc_keysT {d : Addr} {od : Obj} {kvs : List (List Key × V)} {g : TG} {tt : TT} {te : TE} {vs : List Nat} {σ : L2.St} {H1 : Hp} {D : Addr} {Qd : Hp → Prop} (Pv : Nat → Hp → Prop) (h0 : Pv 0 (upd H1 D (.lst []))) (hl : ∀ i H, i ≤ kvs.length → Pv i H → H d = some (.frz od (.dT kvs)))
    (hs : ∀ (i : Nat) (k : List Key) (v : V) (q : Addr) (H : Hp), kvs[i]? = some (k, v) → H q = some (.tup (k.map kV)) → Pv i H → g (.ref q) (wipe σ vs) H fun σ2 H2 => wipe σ2 vs = wipe σ vs ∧ tt σ2 H2 fun b H3 =>
      if b = true then te σ2 H3 fun y H4 => ∃ acc, H4 D = some (.lst acc) ∧ acc.length < sizeLine ∧ Pv (i + 1) (upd H4 D (.lst (acc ++ [y]))) else Pv (i + 1) H3) (hd : ∀ H, Pv kvs.length H → Qd H) :
    ∃ W : Nat → Nat → Hp → Prop, (∃ m, W 0 m (upd H1 D (.lst []))) ∧ ∀ i m H, W i m H →
      ((Itkt d od kvs).stop i H ∧ Qd H) ∨ ((Itkt d od kvs).go i H ∧ ∃ Nx : Hp → Prop, (∀ H', Nx H' → ∃ m', m' < m ∧ W (i + 1) m' H') ∧ ∀ x H', (Itkt d od kvs).yld i H x H' → g x (wipe σ vs) H' fun σ2 H2 => wipe σ2 vs = wipe σ vs ∧ tt σ2 H2 fun b H3 =>
        if b = true then te σ2 H3 fun y H4 => ∃ acc, H4 D = some (.lst acc) ∧ acc.length < sizeLine ∧ Nx (upd H4 D (.lst (acc ++ [y]))) else Nx H3) := by
  refine ⟨fun i m H => m = kvs.length - i ∧ i ≤ kvs.length ∧ Pv i H, ⟨kvs.length, rfl, Nat.zero_le _, h0⟩, ?_⟩
  rintro i m H ⟨rfl, hi, p⟩
  have hd0 := hl i H hi p
  rcases Nat.lt_or_ge i kvs.length with lt | ge
  · refine .inr ⟨⟨hd0, lt⟩, Pv (i + 1), fun H' p' => ⟨kvs.length - (i + 1), by omega, rfl, lt, p'⟩, fun x H' y => ?_⟩
    obtain ⟨rfl, k, v, q, e1, rfl, e2⟩ := y
    exact hs i k v q _ e1 e2 p
  · obtain rfl : i = kvs.length := Nat.le_antisymm hi ge
    exact .inl ⟨⟨hd0, Nat.le_refl _⟩, hd H p⟩
theorem for_keysT {d : Addr} {od : Obj} {kvs : List (List Key × V)} {g : TG} {tb : TS} {D : Ends} {σ : L2.St} {H : Hp} (Pv : Nat → L2.St → Hp → Prop) (h0 : Pv 0 σ H) (hl : ∀ i σ H, i ≤ kvs.length → Pv i σ H → H d = some (.frz od (.dT kvs)))
    (hs : ∀ (i : Nat) (k : List Key) (v : V) (q : Addr) (σ : L2.St) (H : Hp), kvs[i]? = some (k, v) → H q = some (.tup (k.map kV)) → Pv i σ H → g (.ref q) σ H fun σ2 H2 => tb { D with nx := Pv (i + 1), ct := Pv (i + 1), bk := D.nx } σ2 H2) (hd : ∀ σ H, Pv kvs.length σ H → D.nx σ H) :
    ∃ W : Nat → Nat → L2.St → Hp → Prop, (∃ m, W 0 m σ H) ∧ ∀ i m σ H, W i m σ H →
      ((Itkt d od kvs).stop i H ∧ D.nx σ H) ∨ ((Itkt d od kvs).go i H ∧ ∃ N : L2.St → Hp → Prop, (∀ σ' H', N σ' H' → ∃ m', m' < m ∧ W (i + 1) m' σ' H') ∧ ∀ x H', (Itkt d od kvs).yld i H x H' → g x σ H' fun σ2 H2 => tb { D with nx := N, ct := N, bk := D.nx } σ2 H2) := by
  refine ⟨fun i m σ H => m = kvs.length - i ∧ i ≤ kvs.length ∧ Pv i σ H, ⟨kvs.length, rfl, Nat.zero_le _, h0⟩, ?_⟩
  rintro i m σ H ⟨rfl, hi, p⟩
  have hd0 := hl i σ H hi p
  rcases Nat.lt_or_ge i kvs.length with lt | ge
  · refine .inr ⟨⟨hd0, lt⟩, Pv (i + 1), fun σ' H' p' => ⟨kvs.length - (i + 1), by omega, rfl, lt, p'⟩, fun x H' y => ?_⟩
    obtain ⟨rfl, k, v, q, e1, rfl, e2⟩ := y
    exact hs i k v q σ _ e1 e2 p
  · obtain rfl : i = kvs.length := Nat.le_antisymm hi ge
    exact .inl ⟨⟨hd0, Nat.le_refl _⟩, hd σ H p⟩
end Cm
end

section
/-! An exception that a name keeps behind its try: known on the heap, asked, its field read. -/
namespace Cm
open PySem PySem.Spec PyProof.Rows L2

/-- at a: an exception of the class cls, its own dict d -/
def ExcO (a : Addr) (cls : Value) (d : Option Addr) : HO := .ext fun h => ∃ oe : Obj, h.get? a = some oe ∧ oe.cls = cls ∧ oe.dict = d ∧ ∃ vs, oe.data = .fields vs
theorem excO_at {P : Program} {w : World} {H : Hp} {h : Heap} {a : Addr} {cls : Value} {d : Option Addr} (ok : HOk P w H h) (e : H a = some (ExcO a cls d)) : ∃ oe : Obj, h.get? a = some oe ∧ oe.cls = cls ∧ oe.dict = d ∧ ∃ vs, oe.data = .fields vs := (ok a _ e).1
section
variable {X : Cx} {pins : List (Addr × Obj)} {σ : L2.St} {H : Hp} {s : Shared}
theorem inv_adopt {a : Addr} {oe : Obj} {cls : Value} {d : Option Addr} (I : Inv X ((a, oe) :: pins) σ H s) (h0 : X.s_0.heap.get? a = none) (hp : ∀ p ∈ X.pn ++ pins, p.1 ≠ a) (hz : Zc cls d oe) (hf : ∃ vs, oe.data = .fields vs) : Inv X pins σ (upd H a (ExcO a cls d)) s := by
  obtain ⟨ha, na, nL, nF, nc⟩ := I.pin (a, oe) (List.mem_append_right _ List.mem_cons_self)
  have na : H a = none := na
  have ne : ∀ {b : Addr} {o : HO}, H b = some o → b ≠ a := fun e => ne_of_none e na
  have s0 : ∀ {b : Addr} {o : Obj}, X.s_0.heap.get? b = some o → b ≠ a := fun e z => by rw [z, h0] at e; cases e
  refine ⟨I.ok, I.os, I.bare, ⟨I.base.keep, I.base.slot, fun b o e n hx => ?_, I.base.there, fun b xs e => ?_, fun b o u e => ?_, fun b ps e => ?_⟩, I.loc, I.cell, ?_, fun x c e => ?_, fun p h => ?_, fun b o e => ?_, I.len⟩
  · rw [upd_ne (s0 e)]
    exact I.base.free b o e n hx
  · have := I.base.tups b xs e
    rw [upd_ne (ne this)]
    exact this
  · have := I.base.frzs b o u e
    rw [upd_ne (ne this)]
    exact this
  · obtain ⟨m, z⟩ := I.base.tbls b ps e
    exact ⟨m, by rw [upd_ne (ne z)]; exact z⟩
  · rw [upd_ne (Ne.symm nL)]
    exact I.free
  · rw [upd_ne fun z => ?_]
    · exact I.freeC x c e
    · obtain ⟨v, o, ho, hd⟩ := I.cell x c e
      rw [z, ha] at ho
      cases ho
      exact nc v hd
  · have hne := hp p h
    obtain ⟨e1, e2, e3⟩ := I.pin p (by rcases List.mem_append.mp h with z | z; exact List.mem_append_left _ z; exact List.mem_append_right _ (List.mem_cons_of_mem _ z))
    exact ⟨e1, by rw [upd_ne hne]; exact e2, e3⟩
  · by_cases hb : b = a
    · subst hb
      rw [upd_same] at e
      cases e
      obtain ⟨vs, hv⟩ := hf
      exact ⟨⟨oe, ha, hz.1, hz.2, vs, hv⟩, ⟨oe, ha⟩, fun h1 h2 ⟨o, z1, z2⟩ st => ⟨o, st _ z1, z2⟩⟩
    · rw [upd_ne hb] at e
      exact (I.hok b o e).stay (fun c v _ z => z) (fun c z => by rw [upd_ne (ne z)]; exact z) fun c xs z => by rw [upd_ne (ne z)]; exact z
theorem unsuite_pin {a : Addr} {oe : Obj} (I : Inv (X.suite a ((a, oe) :: (X.pn ++ pins))) [] σ H s) (ok : X.Ok) : Inv X ((a, oe) :: pins) σ H s :=
  ⟨ok, I.os, I.bare, I.base, I.loc, I.cell, I.free, I.freeC, fun p hp => I.pin p (by
    rw [List.append_nil]
    rcases List.mem_append.mp hp with z | z
    · exact List.mem_cons_of_mem _ (List.mem_append_left _ z)
    · rcases List.mem_cons.mp z with z | z
      · rw [z]; exact List.mem_cons_self
      · exact List.mem_cons_of_mem _ (List.mem_append_right _ z)), I.hok, I.len⟩
end
/-- what the clause «except x as n: m = n» wishes: slot i is n's, j is m's -/
def wHold (K : PySem.W.Frag) (c : Value) (i j : Nat) (D : Ends) : WX := fun cls d σ H =>
  PySem.W.exmOne K cls c = some true ∧ ∀ a, H a = none → D.nx (((σ.set i (some (.ref a))).set j (some (.ref a))).set i none) (upd H a (ExcO a cls d))
theorem ps_try_hold {X : Cx} {x n m : Str} {c : Value} {i j : Nat} {body : List Stmt} {np pos pos' p1 p2 p3 : Pos} {tb : WX → TS} (hs : X.stack = X.env :: X.outer) (hf : X.env.frame = some X.env.locals) (hex : X.ex = []) (hN : X.N.Nodup) (hi : X.N[i]? = some n) (hln : X.env.kindOf n = some .local) (hj : X.N[j]? = some m)
    (hlm : X.env.kindOf m = some .local) (hij : i ≠ j) (hc : Names X x c) (dn : (n == ("__debug__" : Str)) = false) (dn2 : (n == ("__classdict__" : Str)) = false)
    (hb : ∀ (W : WX) (pn : List (Addr × Obj)) (xe : Value → Shared → Prop), Takes (X.tr pn xe) W → PassesOwn (model X.prog X.w) X.A X.env xe → PSs (X.tr pn xe) body (tb W)) :
    PS X (.Try body [.ExceptHandler (some (.Name x np)) (some n) [.Assign [.Name m p1] (.Name n p2) p3] pos'] [] [] pos) (fun D σ H => tb (wHold X.K c i j D) D σ H) := by
  refine ⟨fun pins s σ H D I h => ?_⟩
  have ok := I.ok
  have hfr : X.A.frames = some (X.env :: X.outer) := by rw [ok.frames, hs]
  have hlocn : Loc X.env.scope n := .inl hln
  have hlocm : Loc X.env.scope m := .inl hlm
  refine wpAny_Try_except (wpAny_mono ((hb (wHold X.K c i j D) (X.pn ++ pins) (fun e s₁ => wpAny (model X.prog X.w) X.A (noteFrame e X.env) (fun _ s₂ => wpAny (model X.prog X.w) X.A (setFlight e none) (fun _ s₃ =>
    wpAny (model X.prog X.w) X.A (handleBy e X.env [.ExceptHandler (some (.Name x np)) (some n) [.Assign [.Name m p1] (.Name n p2) p3] pos']) (SP X pins D) X.xe s₃) X.xe s₂) X.xe s₁) (fun u s' xx => ?_) PassesOwn.looking).run [] s σ H D (I.toTry _) h) (fun f s1 q => ?_) fun e s1 he => he)
  · obtain ⟨a, B, sI, pins', σ', H', cls, d, rfl, J', nb, up, sky, na, os, ag, hm, hgo⟩ := xx
    have J : Inv X pins σ' H' sI := J'.ofTry ok
    rw [show (X.tr (X.pn ++ pins) _).stack = X.env :: X.outer from hs] at sky
    show wpAny (model X.prog X.w) X.A (noteFrame (.ref a) X.env) _ _ _
    refine Sky.land Zc.steady hfr hf sky fun h3 fl3 up3 => ?_
    have J3 : Inv X pins σ' H' { s' with heap := h3 } := J.landed nb fl3.1 (up.trans up3) os ag
    obtain ⟨oe3, vs3, he3, hz3, hd3⟩ := fl3.there
    have nfr : a ∉ frs (X.env :: X.outer) := fun hm => by
      obtain ⟨_, o', e', hnf⟩ := fl3.2.2.1.mem hm
      rw [he3] at e'
      cases e'
      exact hnf _ hd3
    have nL : a ≠ X.env.locals := fun z => nfr (List.mem_filterMap.mpr ⟨X.env, List.mem_cons_self, by rw [hf, z]⟩)
    have nF : a ∉ X.fs := fun hm => by
      obtain ⟨e, he, q⟩ := List.mem_filterMap.mp hm
      exact nfr (List.mem_filterMap.mpr ⟨e, List.mem_cons_of_mem _ he, q⟩)
    have newI : sI.heap.get? a = none := by
      cases q : sI.heap.get? a with
      | none => rfl
      | some o =>
        have := nb a o q (by rw [show (X.tr (X.pn ++ pins) _).stack = X.env :: X.outer from hs]; exact nfr)
        rw [fl3.2.1] at this
        cases this
    have new0 : X.s_0.heap.get? a = none := by
      cases q : X.s_0.heap.get? a with
      | none => rfl
      | some o =>
        obtain ⟨o', e⟩ := J.base.there a o q (by rw [hex]; simp)
        rw [newI] at e
        cases e
    have npin : ∀ p ∈ X.pn ++ pins, p.1 ≠ a := fun p hp z => by
      have := (J.pin p hp).1
      rw [z, newI] at this
      cases this
    have S3 := J3.suite he3 hd3 na nL nF
    refine wpAny_handleBy_cons (codeAny_handlers_test ?_) (by intro q; cases q)
    have LT : PySem.W.Looks (model X.prog X.w) h3 (typeOf (.ref a)) cls := fun A Q E s k q => wpAny_typeOf_ref (k _ _ he3) (by rw [hz3.1]; exact q)
    have LM := PySem.W.exm_one (M := model X.prog X.w) (J3.kIn) LT hm
    have test : ∀ {Q : Value → Shared → Prop} {E : Value → Shared → Prop}, Q c { s' with heap := h3 } → wpAny (model X.prog X.w) (X.A.mark (some (.ref a))) (eval (.Name x np) X.env) Q E { s' with heap := h3 } := fun {Q E} q => by
      obtain ⟨hg, hdb, hq⟩ := hc
      rcases hq with hq | ⟨hq, hv, hnn⟩
      · exact ld_glob (X := X.suite a ((a, oe3) :: (X.pn ++ pins))) S3 hg hq q hdb
      · exact ld_blt (X := X.suite a ((a, oe3) :: (X.pn ++ pins))) S3 hg hq hv q hnn hdb
    refine test (LM.here (codeAny_handlers_suite_as (HandSPX.lands_againZ fl3 fun h4 fl4 up4 => ?_)))
    have J4 : Inv X pins σ' H' { s' with heap := h4 } := J.landed nb fl4.1 ((up.trans up3).trans up4) os ag
    obtain ⟨oe4, vs4, he4, hz4, hd4⟩ := fl4.there
    have S4 := J4.suite he4 hd4 na nL nF
    refine store_ok (X := X.suite a ((a, oe4) :: (X.pn ++ pins))) (v := .ref a) S4 hN hi hlocn rfl (fun s5 S5 => ?_) (.inr hln)
    have run := (pss_one (ps_asg (X := X.suite a ((a, oe4) :: (X.pn ++ pins))) (pos := p3) (pe_var (i := i) (pos := p2) hi (.inl hln) dn dn2) (pg_name (i := j) (pos := p1) hN hj hlocm (.inr hlm)))).run [] s5 _ H' { nx := fun σ6 H6 => σ6 = (σ'.set i (some (.ref a))).set j (some (.ref a)) ∧ H6 = H', rt := fun _ _ => False } S5 ⟨.ref a, ?_, rfl, rfl⟩
    · refine wpAny_mono run (fun f s6 hsp => ?_) (fun _ _ z => False.elim z)
      cases f with
      | next =>
        obtain ⟨σ6, H6, S6, rfl, rfl⟩ := hsp
        refine gone_ok (unsuite_pin S6 ok) hN hi hln fun s7 J7 => ?_
        exact ⟨_, _, inv_adopt J7 new0 npin hz4 ⟨_, hd4⟩, hgo a na⟩
      | brk => obtain ⟨_, _, _, z⟩ := hsp; exact False.elim z
      | cont => obtain ⟨_, _, _, z⟩ := hsp; exact False.elim z
      | ret u => obtain ⟨_, _, _, _, _, z⟩ := hsp; exact False.elim z
    · have hl : i < σ'.length := by rw [J.len]; exact (List.getElem?_eq_some_iff.mp hi).1
      rw [List.getElem?_set_self hl]
  · cases f with
    | next => obtain ⟨σ', H', J', q⟩ := q; exact wpAny_execs_nil ⟨σ', H', J'.ofTry ok, q⟩
    | brk => obtain ⟨σ', H', J', q⟩ := q; exact ⟨σ', H', J'.ofTry ok, q⟩
    | cont => obtain ⟨σ', H', J', q⟩ := q; exact ⟨σ', H', J'.ofTry ok, q⟩
    | ret u => obtain ⟨v, σ', H', J', r, q⟩ := q; exact ⟨v, σ', H', J'.ofTry ok, r, q⟩
section
variable {X : Cx} {pins : List (Addr × Obj)} {σ : L2.St} {H : Hp} {s : Shared}
/-- the kept exception with its field dict, as the class rules want it -/
theorem exc_inst {a D dd : Addr} {fs : List (Str × V)} (I : Inv X pins σ H s) (e : H a = some (ExcO a (.ref D) (some dd))) (ed : H dd = some (.xd fs)) : ∃ (oe od : Obj) (mA : Str → Option Value), PySem.W.InstAt s.heap a oe D (some od) ∧ (∀ n, PySem.W.lookIn n od = some (mA n)) ∧ ∀ n, RelO (fs.lookup n) (mA n) := by
  obtain ⟨oe, ho, hc, hd, vs, hv⟩ := excO_at I.hok e
  have hx : ObjOk X.prog X.w H s.heap dd (.xd fs) := I.hok dd _ ed
  obtain ⟨mA, hns, hr⟩ := hx
  obtain ⟨od, hod, hl⟩ := lookIn_ns hns
  exact ⟨oe, od, mA, ⟨ho, hc, by unfold PySem.W.notCls; rw [hv] <;> rfl, by rw [hd]; exact hod⟩, hl, hr⟩
end
/-- isinstance(x, c), x a kept exception of the class D -/
def rIsX (K : PySem.W.Frag) : List V → Hp → VK → Prop := fun xs H Q => ∃ (a D dd : Addr) (fs : List (Str × V)) (c : V) (u : Value) (b : Bool), xs = [.ref a, c] ∧ ClsV c u ∧ ExcC K D ∧ H a = some (ExcO a (.ref D) (some dd)) ∧ H dd = some (.xd fs) ∧ PySem.W.kitOne K (.ref D) u = some b ∧ Q (.bl b) H
theorem call_isX {X : Cx} : CallR X (.builtin "isinstance") (rIsX X.K) := by
  intro pins s σ H xs us Q I r h
  obtain ⟨a, D, dd, fs, c, u, b, rfl, k, C, e, ed, ek, q⟩ := h
  obtain ⟨u1, u2, rfl, r1, r2⟩ := vals2 r
  have e2 := k.eq r2
  subst e2
  obtain rfl : u1 = Value.ref a := r1
  obtain ⟨oe, od, _, J, _⟩ := exc_inst I e ed
  obtain ⟨cd, hcd, _⟩ := PySem.W.any_some C.hd
  exact PySem.W.kia_one (PySem.W.kitx_exc (by rw [hcd]; rfl) C.hg C.hk C.hs C.ha C.hn C.ht C.hm) I.kIn J ek (fun z => nomatch z) fun tk => ⟨.bl b, H, I.tok tk, rfl, q⟩
/-- the field f of a kept exception -/
def tXfK (D : Addr) (f : Str) (te : TE) : TE := fun σ H Q => te σ H fun x H1 => ∃ (a dd : Addr) (fs : List (Str × V)) (v : V), x = .ref a ∧ H1 a = some (ExcO a (.ref D) (some dd)) ∧ H1 dd = some (.xd fs) ∧ fs.lookup f = some v ∧ Q v H1
theorem pe_xfK {X : Cx} {D : Addr} {e : Expr} {te : TE} {pos : Pos} {n : Str} (T : XfC X.K D) (hno : PySem.W.findIn X.K (.ref D) n = some none) (he : PE X e te) (hb : attributeBase e n X.env (eval e X.env) = eval e X.env := by rfl) :
    PE X (.Attribute e n pos) (tXfK D n te) := by
  refine ⟨fun pins s σ H Q I h => ?_⟩
  refine attr_of hb (thn (he.run pins s σ H _ I h) fun u s1 hh => ?_)
  obtain ⟨x, H1, I1, rx, a, dd, fs, v, rfl, ea, ed, l, q⟩ := hh
  obtain rfl : u = Value.ref a := rx
  obtain ⟨oe, od, mA, J, hl, hr⟩ := exc_inst I1 ea ed
  obtain ⟨u, hu, ru⟩ := RelO.some_of (v := v) (o := mA n) (by rw [← l]; exact hr n)
  exact HandSPX.exc_get I1.kIn J T.ga T.gg T.exC (PySem.W.findObj_own T.hdC hno rfl (by rw [hl, hu])) (handed_of ru) ⟨v, H1, I1.tok _, ru, q⟩
end Cm
end

section
/-! The defs of the text by their places; a def that can be called, with its promise. -/
namespace Cm
open PySem PySem.Spec PyProof.Rows L2
/-- the i-th statement of the program's top -/
def top (i : Nat) : Stmt := PySem.Challenge.pw_codemend_k22_reads_and_put_ins.main.body.getD i (.Pass ⟨0, 0, 0, 0⟩)
/-- the built-in names that nobody has written over -/
structure Bt (mg : Str → Option Value) : Prop where
  len : mg "len" = none
  int : mg "int" = none
  str : mg "str" = none
  tuple : mg "tuple" = none
  list : mg "list" = none
  dict : mg "dict" = none
  max : mg "max" = none
  min : mg "min" = none
  sorted : mg "sorted" = none
  range : mg "range" = none
  zip : mg "zip" = none
  isinstance : mg "isinstance" = none
/-- a def of the top, at f -/
structure DefAt (K : PySem.W.Frag) (mg : Str → Option Value) (x : Str) (st : Stmt) (f : Addr) (fd : FuncData) : Prop where
  F : Fun K x x st f fd
  g : mg x = some (.ref f)
/-- a module's name whose def keeps the promise sp -/
structure CallOk (P : Program) (w : World) (K : PySem.W.Frag) (mg : Str → Option Value) (base : Heap) (k : Nat) (x : Str) (ps : List Str) (sp : Sp) : Prop where
  ex : ∃ (f : Addr) (fd : FuncData), FnOk P w K mg base CX0 k f fd ps sp ∧ mg x = some (.ref f) ∧ PySem.W.keepIn K (.ref f) = true ∧ Binds K fd ps []
section
variable {P : Program} {w : World} {K : PySem.W.Frag} {mg : Str → Option Value} {base : Heap}
theorem DefAt.call {x : Str} {st : Stmt} {f : Addr} {fd : FuncData} {N ps : List Str} {k : Nat} {sp : Sp} (D : DefAt K mg x st f fd) (S : FnScope N ps (defScope st)) (len : ∀ vs H Q E, sp vs H Q E → vs.length = ps.length)
    (hb : ∀ (kV doc pm : Value) (an : Option Addr) (cdv ct : Value) (us : List Value), us.length = ps.length → bindArgs (PySem.W.fnOf x x (defArgs st) (defBody st) (defScope st) .none kV doc pm an cdv ct) ⟨us, []⟩ = pure (ps.zip us))
    (hbody : ∀ (cdv : Value) (A : Around) (outer : List Env) (s : Shared) (H : Hp) (vs : List V) (Q : VK) (E : XK), Room k (A.deeper (envOfC x (defScope st) s.heap.objs.size f cdv)) → sp vs H Q E →
      ∃ t, PSs (cxOf CX0 P w K mg base N x (defScope st) f cdv A outer s H E).nox (defBody st) t ∧ t { nx := fun _ H' => Q .non H', rt := Q } (start N vs) H) : CallOk P w K mg base (k + 1) x ps sp :=
  ⟨f, fd, D.F.ok S len hbody, D.g, D.F.kp, D.F.binds hb⟩
end
theorem pe_cal {X : Cx} {j k : Nat} {x : Str} {ps : List Str} {sp : Sp} {p pos : Pos} {e : Expr} {es : List Expr} {t : TA} (C : CallOk X.prog X.w X.K X.mg X.base j x ps sp) (hr : Room k X.A) (hj : j ≤ k) (hg : Gl X x) (ha : PA X (e :: es) t)
    (hdb : (x == ("__debug__" : Str)) = false := by decide) (he : starEach (e :: es) X.env = (false, eval e X.env) :: starEach es X.env := by rfl) (hpl : (backTo pos (starEach es X.env)).any (·.1) = false := by rfl) :
    PE X (.Call (.Name x p) (e :: es) [] pos) (tCall sp [] E0 t) := by
  obtain ⟨f, fd, F, hm, hk, hb⟩ := C.ex
  exact pe_call F (hr.mono hj) hg hm hk hb .nil pass0 ha hdb he hpl
theorem hu2_of {A : Around} {k : Nat} (hr : Room k A) : A.units + 2 < cLine := Nat.lt_of_le_of_lt (Nat.add_le_add_left (by decide : 2 ≤ 64) _) hr.units
theorem ps_augI {X : Cx} {i : Nat} {x : Str} {e : Expr} {te : TE} {pos pos' : Pos} (hN : X.N.Nodup) (hi : X.N[i]? = some x) (hx : Loc X.env.scope x) (he : PE X e te) (hf : X.fn x = true ∨ X.env.scope.names.lookup x = some .local := by first | exact .inl rfl | exact .inr rfl | assumption) :
    PS X (.AugAssign (.Name x pos') .Add e pos) (tAug i te (ipI fun i j => i + j)) := ps_aug hN hi hx he ip_add hf
theorem lenOk {n : Nat} (h : n ≤ 1000) : n ≤ sizeLine := Nat.le_of_lt (small1000 h)
end Cm
end

section
/-! A label's figures, its rank, the order. -/
namespace Cm
open PySem PySem.Spec PyProof.Rows L2
structure Cst (mg : Str → Option Value) (ft dt : Tok) : Prop where
  FIGURES : mg "FIGURES" = some (.str "0123456789" ft)
  DEEPEST : mg "DEEPEST" = some (.int 9 dt)
theorem figs_list : ("0123456789" : Str).cps.toList = [48, 49, 50, 51, 52, 53, 54, 55, 56, 57] := by decide +kernel
theorem dg_in (c : Nat) : decide (c ∈ ("0123456789" : Str).cps.toList) = dg c := by
  rw [figs_list]
  unfold dg
  rw [← Bool.decide_and]
  refine decide_eq_decide.mpr ?_
  simp only [List.mem_cons, List.not_mem_nil, or_false]
  omega
theorem tw_at {p : Nat → Bool} : ∀ {l : List Nat} {j c : Nat}, j ≤ (l.takeWhile p).length → l[j]? = some c → (p c = true → j + 1 ≤ (l.takeWhile p).length) ∧ (p c = false → j = (l.takeWhile p).length)
  | [], j, c, _, e => by simp at e
  | x :: l, 0, c, h, e => by
    rw [List.getElem?_cons_zero] at e
    cases e
    constructor
    · intro h1
      simp [List.takeWhile, h1]
    · intro h1
      simp [List.takeWhile, h1]
  | x :: l, j + 1, c, h, e => by
    rw [List.getElem?_cons_succ] at e
    cases hx : p x with
    | false => simp [List.takeWhile, hx] at h
    | true =>
      simp only [List.takeWhile, hx, List.length_cons] at h ⊢
      have := tw_at (p := p) (l := l) (j := j) (by omega) e
      exact ⟨fun h1 => by have := this.1 h1; omega, fun h1 => by have := this.2 h1; omega⟩
theorem figs_le (l : Str) : figs l ≤ l.length := by
  unfold figs
  have := (List.takeWhile_sublist dg (l := l.cps.toList)).length_le
  rw [Array.length_toList] at this
  exact this
/-- figures_in(text) -/
def spFig : Sp := fun vs H Q _ => ∃ l : Str, vs = [.str l] ∧ l.length ≤ 1000 ∧ Q (.int (figs l : Nat)) H
abbrev sc_figures_inS : Stmt := (top 12)
abbrev sc_figures_inN : List Str := ["text", "many"]
abbrev sc_figures_inP : List Str := ["text"]
theorem sc_figures_in : FnScope sc_figures_inN sc_figures_inP (defScope sc_figures_inS) := ⟨rfl, rfl, rfl, by decide +kernel, rfl, by decide +kernel, by decide +kernel⟩
section
variable {P : Program} {w : World} {K : PySem.W.Frag} {mg : Str → Option Value} {base : Heap}
theorem ok_figures_in {f : Addr} {fd : FuncData} {ft dt : Tok} (D : DefAt K mg "figures_in" sc_figures_inS f fd) (B : Bt mg) (T : Cst mg ft dt) : CallOk P w K mg base 1 "figures_in" sc_figures_inP spFig := by
  refine D.call sc_figures_in (fun vs H Q E h => ?_) (fun _ _ _ _ _ _ us hl => match us, hl with | [_], _ => rfl) (fun cdv A outer s H vs Q E hr h => ?_)
  · obtain ⟨_, rfl, _⟩ := h
    rfl
  refine ⟨_, (pss_cons (ps_set (i := 1) sc_figures_in.nd rfl (Or.inl rfl) pe_int) (pss_cons (ps_while PassesOwn.never (PW.pt (pw_and (pt_cmpR op_lt (pv 1) (pe_callB call_len_str (by rfl) B.len PySem.boot_len (pa_cons (pv 0) pa_nil)) (nomark _)) (pw_and1 (pt_cmpR op_in_sign (pe_ix ix_str (pv 0) (pv 1) (fun _ _ => rfl)) (pe_glob (v := .str "0123456789") rfl T.FIGURES ⟨_, rfl⟩) rfl)))) (pss_one (ps_augI (i := 1) sc_figures_in.nd rfl (Or.inl rfl) pe_int))) (pss_one (ps_ret (pv 1))))), ?_⟩
  obtain ⟨l, rfl, hl, q⟩ := h
  refine ⟨fun m σ H' => ∃ j : Nat, j ≤ figs l ∧ m + j = figs l + 1 ∧ σ = [some (.str l), some (.int (j : Int))] ∧ H' = H, ⟨_, 0, Nat.zero_le _, Nat.add_zero _, rfl, rfl⟩, ?_⟩
  rintro m σ H' ⟨j, hj, hm, rfl, rfl⟩
  have hf := figs_le l
  have hs : l.length ≤ sizeLine := lenOk hl
  refine ⟨_, rfl, _, rfl, l, rfl, hs, _, _, rfl, rfl, _, rfl, ?_⟩
  by_cases c : (j : Int) < (l.length : Int)
  · have c' : j < l.cps.toList.length := by rw [Array.length_toList]; exact Int.ofNat_lt.mp c
    have e : l.cps.toList[j]? = some l.cps.toList[j] := List.getElem?_eq_getElem c'
    generalize hd : l.cps.toList[j] = d at e
    rw [decide_eq_true c]
    refine iteT ⟨_, rfl, _, rfl, l, _, d, rfl, rfl, hs, atI_nat e, ?_⟩
    refine ⟨d, _, rfl, rfl, _, rfl, ?_⟩
    rw [dg_in]
    have t := tw_at (p := dg) (l := l.cps.toList) (j := j) (c := d) hj e
    cases hp : dg d with
    | true =>
      refine iteT ⟨fun σ' H'' => σ' = [some (.str l), some (.int ((j + 1 : Nat) : Int))] ∧ H'' = H', ?_, ?_⟩
      · rintro σ' H'' ⟨rfl, rfl⟩
        have := t.1 hp
        exact ⟨m - 1, by unfold figs at *; omega, j + 1, by unfold figs; omega, by unfold figs at *; omega, rfl, rfl⟩
      · exact ⟨_, rfl, _, _, rfl, rfl, rfl, rfl⟩
    | false =>
      refine iteF ⟨_, rfl, ?_⟩
      have := t.2 hp
      rw [this]
      exact q
  · have e : j = figs l := by
      have : l.length ≤ j := by omega
      omega
    rw [decide_eq_false c]
    refine iteF (iteF ⟨_, rfl, ?_⟩)
    rw [e]
    exact q
end
end Cm
end

section
/-! A label's rank as a tuple; one label before another. -/
namespace Cm
open PySem PySem.Spec PyProof.Rows L2
def kS (l : Str) : Str := ⟨(key l).2.toArray⟩
theorem tw_take {p : Nat → Bool} (l : List Nat) : l.take (l.takeWhile p).length = l.takeWhile p := (List.prefix_iff_eq_take.mp (List.takeWhile_prefix p)).symm
theorem tw_drop {p : Nat → Bool} : ∀ (l : List Nat), l.drop (l.takeWhile p).length = l.dropWhile p
  | [] => rfl
  | x :: l => by
    cases h : p x with
    | true => simp [List.takeWhile, List.dropWhile, h, tw_drop l]
    | false => simp [List.takeWhile, List.dropWhile, h]
theorem cut_to (l : Str) : (cutS l none (some (figs l : Int))).cps.toList = l.cps.toList.takeWhile dg := by
  have h := figs_le l
  unfold cutS
  rw [HT.sIx_none, HT.sIx_nat, Nat.min_eq_left h, List.drop_zero, Nat.sub_zero, List.toList_toArray]
  exact tw_take _
theorem cut_from (l : Str) : (cutS l (some (figs l : Int)) none).cps.toList = l.cps.toList.dropWhile dg := by
  have h := figs_le l
  unfold cutS
  rw [HT.sIx_none, HT.sIx_nat, Nat.min_eq_left h, List.toList_toArray]
  have e : l.length = l.cps.toList.length := by rw [Array.length_toList]; rfl
  rw [List.take_of_length_le (by rw [List.length_drop, ← e]; exact Nat.le_refl _)]
  exact tw_drop _
theorem cut_kS (l : Str) : cutS l (some (figs l : Int)) none = kS l := str_ext (by rw [cut_from]; unfold kS; rw [List.toList_toArray]; rfl)
theorem lab_int {l : Str} (h : IsLab l) : intText? (cutS l none (some (figs l : Int))) = some ((key l).1 : Int) ∧ (cutS l none (some (figs l : Int))).length ≤ 640 := by
  have hl := isLab_len h
  have hc := cutS_length l none (some (figs l : Int))
  have e := cut_to l
  obtain ⟨n, u, _, _, hu, hn⟩ := h
  obtain ⟨h1, _⟩ := isLab_parts hu hn
  have e2 := PySem.intText_digits (x := cutS l none (some (figs l : Int))) (by rw [e, h1]; exact TL.numL_digits n) (by rw [e, h1]; exact TL.numL_ne n) (by omega)
  rw [e] at e2
  exact ⟨e2, by omega⟩
/-- rank_of(label), _law_key(label) -/
def spKey : Sp := fun vs H Q _ => ∃ l : Str, vs = [.str l] ∧ IsLab l ∧ ∀ (p : Addr) (H' : Hp), Same H H' → H' p = some (.tup [.int (key l).1, .str (kS l)]) → Q (.ref p) H'
def spBef : Sp := fun vs H Q _ => ∃ a b : Str, vs = [.str a, .str b] ∧ IsLab a ∧ IsLab b ∧ ∀ H', Same H H' → Q (.bl (decide (klt (key a) (key b)))) H'
theorem klt_dec (a b : Str) : decide (((key a).1 : Int) < ((key b).1 : Int) ∨ (((key a).1 : Int) = ((key b).1 : Int) ∧ (kS a).cps.toList < (kS b).cps.toList)) = decide (klt (key a) (key b)) := by
  refine decide_eq_decide.mpr ?_
  unfold klt kS
  simp only [List.toList_toArray, Int.ofNat_lt, Int.ofNat_inj]
theorem same2 {H : Hp} {p : Addr} {o : HO} (h : H p = none) : Same H (upd H p o) := Same.new h
abbrev sc_rank_ofS : Stmt := (top 13)
abbrev sc_rank_ofN : List Str := ["label", "many"]
abbrev sc_rank_ofP : List Str := ["label"]
theorem sc_rank_of : FnScope sc_rank_ofN sc_rank_ofP (defScope sc_rank_ofS) := ⟨rfl, rfl, rfl, by decide +kernel, rfl, by decide +kernel, by decide +kernel⟩
abbrev sc_label_beforeS : Stmt := (top 14)
abbrev sc_label_beforeN : List Str := ["one", "other"]
abbrev sc_label_beforeP : List Str := ["one", "other"]
theorem sc_label_before : FnScope sc_label_beforeN sc_label_beforeP (defScope sc_label_beforeS) := ⟨rfl, rfl, rfl, by decide +kernel, rfl, by decide +kernel, by decide +kernel⟩
abbrev sc_law_keyS : Stmt := (top 35)
abbrev sc_law_keyN : List Str := ["_law_label_here", "_law_at"]
abbrev sc_law_keyP : List Str := ["_law_label_here"]
theorem sc_law_key : FnScope sc_law_keyN sc_law_keyP (defScope sc_law_keyS) := ⟨rfl, rfl, rfl, by decide +kernel, rfl, by decide +kernel, by decide +kernel⟩
section
variable {P : Program} {w : World} {K : PySem.W.Frag} {mg : Str → Option Value} {base : Heap}
theorem ok_rank_of {f : Addr} {fd : FuncData} (D : DefAt K mg "rank_of" sc_rank_ofS f fd) (B : Bt mg) (C_figures_in : CallOk P w K mg base 1 "figures_in" sc_figures_inP spFig) : CallOk P w K mg base 2 "rank_of" sc_rank_ofP spKey := by
  refine D.call sc_rank_of (fun vs H Q E h => ?_) (fun _ _ _ _ _ _ us hl => match us, hl with | [_], _ => rfl) (fun cdv A outer s H vs Q E hr h => ?_)
  · obtain ⟨_, rfl, _⟩ := h
    rfl
  refine ⟨_, (pss_cons (ps_set (i := 1) sc_rank_of.nd rfl (Or.inl rfl) (pe_cal C_figures_in hr (by decide) rfl (pa_cons (pv 0) pa_nil))) (pss_one (ps_ret (pe_tup (pa_cons (pe_callTy call_int_str (by rfl) B.int (by decide +kernel) (pa_cons (pe_slice sl_str (pv 0) po_none (po_some (pv 1))) pa_nil)) (pa_cons (pe_slice sl_str (pv 0) (po_some (pv 1)) po_none) pa_nil)))))), ?_⟩
  obtain ⟨l, rfl, hl, q⟩ := h
  have hl2 := isLab_len hl
  refine ⟨_, rfl, l, rfl, by omega, ?_⟩
  obtain ⟨e1, e2⟩ := lab_int hl
  refine ⟨_, rfl, _, rfl, _, rfl, _, rfl, lenOk (n := l.length) (by omega), _, _, rfl, e1, e2, ?_⟩
  refine ⟨_, rfl, _, rfl, _, rfl, _, rfl, lenOk (n := l.length) (by omega), ?_⟩
  refine ⟨by show 2 ≤ sizeLine; decide, fun p hp => q p _ (Same.new hp) ?_⟩
  rw [upd_same, cut_kS]
theorem ok_label_before {f : Addr} {fd : FuncData} (D : DefAt K mg "label_before" sc_label_beforeS f fd) (C_rank_of : CallOk P w K mg base 2 "rank_of" sc_rank_ofP spKey) : CallOk P w K mg base 3 "label_before" sc_label_beforeP spBef := by
  refine D.call sc_label_before (fun vs H Q E h => ?_) (fun _ _ _ _ _ _ us hl => match us, hl with | [_, _], _ => rfl) (fun cdv A outer s H vs Q E hr h => ?_)
  · obtain ⟨_, _, rfl, _⟩ := h
    rfl
  refine ⟨_, pss_one (ps_ret (pe_cmpR (op_ltK (Nat.lt_of_succ_lt (hu_of hr))) (pe_cal C_rank_of hr (by decide) rfl (pa_cons (pv 0) pa_nil)) (pe_cal C_rank_of hr (by decide) rfl (pa_cons (pv 1) pa_nil)) (nomark _))), ?_⟩
  obtain ⟨a, b, rfl, ha, hb, q⟩ := h
  refine ⟨_, rfl, a, rfl, ha, fun p H1 s1 h1 => ?_⟩
  refine ⟨_, rfl, b, rfl, hb, fun r H2 s2 h2 => ?_⟩
  refine ⟨p, r, _, _, _, _, rfl, rfl, s2 _ _ h1, h2, ?_⟩
  rw [klt_dec]
  exact q _ (s1.trans s2)
theorem ok_law_key {f : Addr} {fd : FuncData} (D : DefAt K mg "_law_key" sc_law_keyS f fd) (B : Bt mg) : CallOk P w K mg base 1 "_law_key" sc_law_keyP spKey := by
  refine D.call sc_law_key (fun vs H Q E h => ?_) (fun _ _ _ _ _ _ us hl => match us, hl with | [_], _ => rfl) (fun cdv A outer s H vs Q E hr h => ?_)
  · obtain ⟨_, rfl, _⟩ := h
    rfl
  refine ⟨_, (pss_cons (ps_set (i := 1) sc_law_key.nd rfl (Or.inl rfl) pe_int) (pss_cons (ps_while PassesOwn.never (PW.pt (pw_and (pt_cmpR op_lt (pv 1) (pe_callB call_len_str (by rfl) B.len PySem.boot_len (pa_cons (pv 0) pa_nil)) (nomark _)) (pw_and1 (pt_cmpR op_in_sign (pe_ix ix_str (pv 0) (pv 1) (fun _ _ => rfl)) pe_str rfl)))) (pss_one (ps_set (i := 1) sc_law_key.nd rfl (Or.inl rfl) (pe_op op_add (pv 1) pe_int)))) (pss_one (ps_ret (pe_tup (pa_cons (pe_callTy call_int_str (by rfl) B.int (by decide +kernel) (pa_cons (pe_slice sl_str (pv 0) po_none (po_some (pv 1))) pa_nil)) (pa_cons (pe_slice sl_str (pv 0) (po_some (pv 1)) po_none) pa_nil))))))), ?_⟩
  obtain ⟨l, rfl, hl, q⟩ := h
  have hl2 := isLab_len hl
  have hf := figs_le l
  have hs : l.length ≤ sizeLine := lenOk (by omega)
  have fin : ∀ H' : Hp, H' = H → ∀ j : Nat, j = figs l → (tRet (tTup (tCons (tCB (fun xs H Q => ∃ a n, xs = [.str a] ∧ PySem.intText? a = some n ∧ a.length ≤ 640 ∧ Q (.int n) H) (tCons (tSl rSlS (tVar 0) tNoPart (tPart (tVar 1))) tNil)) (tCons (tSl rSlS (tVar 0) (tPart (tVar 1)) tNoPart) tNil)))) { nx := fun _ H' => Q .non H', rt := Q } [some (.str l), some (.int (j : Int))] H' := by
    rintro _ rfl _ rfl
    obtain ⟨e1, e2⟩ := lab_int hl
    refine ⟨_, rfl, _, rfl, _, rfl, _, rfl, hs, _, _, rfl, e1, e2, ?_⟩
    refine ⟨_, rfl, _, rfl, _, rfl, _, rfl, hs, ?_⟩
    refine ⟨by show 2 ≤ sizeLine; decide, fun p hp => q p _ (Same.new hp) ?_⟩
    rw [upd_same, cut_kS]
  refine ⟨fun m σ H' => ∃ j : Nat, j ≤ figs l ∧ m + j = figs l + 1 ∧ σ = [some (.str l), some (.int (j : Int))] ∧ H' = H, ⟨_, 0, Nat.zero_le _, Nat.add_zero _, rfl, rfl⟩, ?_⟩
  rintro m σ H' ⟨j, hj, hm, rfl, rfl⟩
  refine ⟨_, rfl, _, rfl, l, rfl, hs, _, _, rfl, rfl, _, rfl, ?_⟩
  by_cases c : (j : Int) < (l.length : Int)
  · have c' : j < l.cps.toList.length := by rw [Array.length_toList]; exact Int.ofNat_lt.mp c
    have e : l.cps.toList[j]? = some l.cps.toList[j] := List.getElem?_eq_getElem c'
    generalize hd : l.cps.toList[j] = d at e
    rw [decide_eq_true c]
    refine iteT ⟨_, rfl, _, rfl, l, _, d, rfl, rfl, hs, atI_nat e, ?_⟩
    refine ⟨d, _, rfl, rfl, _, rfl, ?_⟩
    rw [dg_in]
    have t := tw_at (p := dg) (l := l.cps.toList) (j := j) (c := d) hj e
    cases hp : dg d with
    | true =>
      refine iteT ⟨fun σ' H'' => σ' = [some (.str l), some (.int ((j + 1 : Nat) : Int))] ∧ H'' = H', ?_, ?_⟩
      · rintro σ' H'' ⟨rfl, rfl⟩
        have := t.1 hp
        exact ⟨m - 1, by unfold figs at *; omega, j + 1, by unfold figs; omega, by unfold figs at *; omega, rfl, rfl⟩
      · exact ⟨_, rfl, _, _, rfl, rfl, rfl, rfl⟩
    | false => exact iteF (fin _ rfl j (t.2 hp))
  · have e : j = figs l := by
      have : l.length ≤ j := by omega
      omega
    rw [decide_eq_false c]
    exact iteF (iteF (fin _ rfl j e))
end
end Cm
end

section
/-! Walking a tree: a kid by its label, the node at a place, how deep. -/
namespace Cm
open PySem PySem.Spec PyProof.Rows L2
theorem kidOf_first {ks : List T} {i : Nat} {k : T} {a : Str} (h : ks[i]? = some k) (h1 : ∀ x ∈ ks.take i, x.lab ≠ a) (h2 : k.lab = a) : kidOf ks a = some k := by
  obtain ⟨hi, e⟩ := List.getElem?_eq_some_iff.mp h
  have e2 : ks = ks.take i ++ k :: ks.drop (i + 1) := (List.take_append_drop i ks).symm.trans (by rw [List.drop_eq_getElem_cons hi, e])
  unfold kidOf
  rw [e2, List.find?_append, List.find?_eq_none.mpr (fun x hx => by simp [h1 x hx])]
  simp [h2]
theorem take_succ {α : Type} {l : List α} {i : Nat} {x : α} (h : l[i]? = some x) : l.take (i + 1) = l.take i ++ [x] := by
  rw [List.take_succ, h]
  rfl
def spKid : Sp := fun vs H Q _ => ∃ (t : T) (a : Str) (v : V), vs = [v, .str a] ∧ TAt H t v ∧ (kidOf t.kids a = none → Q .non H) ∧ ∀ k u, kidOf t.kids a = some k → TAt H k u → Q u H
def spNode : Sp := fun vs H Q _ => ∃ (t : T) (pl : Pl) (v u : V), vs = [v, u] ∧ TAt H t v ∧ SAt H u pl ∧ (nodeAt t pl = none → Q .non H) ∧ ∀ n x, nodeAt t pl = some n → TAt H n x → Q x H
def spDeep (n : Nat) : Sp := fun vs H Q _ => ∃ (t : T) (v : V), vs = [v] ∧ TAt H t v ∧ t.deep ≤ n ∧ Wd 1000 t ∧ ∀ H', Same H H' → Q (.int (t.deep : Nat)) H'
theorem top_deep {ks : List T} {m : Int} (h : Top (ks.map fun k => ((k.deep : Nat) : Int)) (ks.map fun k => ((k.deep : Nat) : Int)).length m) : m = ((deepL ks : Nat) : Int) := by
  obtain ⟨h1, h2⟩ := h
  rw [List.take_length] at h1 h2
  obtain ⟨k, hk, rfl⟩ := List.mem_map.mp h1
  have a1 := deepL_le hk
  have a2 : deepL ks ≤ k.deep := deepL_of fun x hx => by
    have := h2 _ (List.mem_map.mpr ⟨x, hx, rfl⟩)
    omega
  omega
abbrev sc_kid_ofS : Stmt := (top 16)
abbrev sc_kid_ofN : List Str := ["node", "label", "kid"]
abbrev sc_kid_ofP : List Str := ["node", "label"]
theorem sc_kid_of : FnScope sc_kid_ofN sc_kid_ofP (defScope sc_kid_ofS) := ⟨rfl, rfl, rfl, by decide +kernel, rfl, by decide +kernel, by decide +kernel⟩
abbrev sc_node_atS : Stmt := (top 17)
abbrev sc_node_atN : List Str := ["tree", "place", "node", "label"]
abbrev sc_node_atP : List Str := ["tree", "place"]
theorem sc_node_at : FnScope sc_node_atN sc_node_atP (defScope sc_node_atS) := ⟨rfl, rfl, rfl, by decide +kernel, rfl, by decide +kernel, by decide +kernel⟩
abbrev sc_deepS : Stmt := (top 18)
abbrev sc_deepN : List Str := ["node", "kid"]
abbrev sc_deepP : List Str := ["node"]
theorem sc_deep : FnScope sc_deepN sc_deepP (defScope sc_deepS) := ⟨rfl, rfl, rfl, by decide +kernel, rfl, by decide +kernel, by decide +kernel⟩
abbrev sc_law_deepS : Stmt := (top 46)
abbrev sc_law_deepN : List Str := ["_law_node", "_law_kid_here"]
abbrev sc_law_deepP : List Str := ["_law_node"]
theorem sc_law_deep : FnScope sc_law_deepN sc_law_deepP (defScope sc_law_deepS) := ⟨rfl, rfl, rfl, by decide +kernel, rfl, by decide +kernel, by decide +kernel⟩
section
variable {P : Program} {w : World} {K : PySem.W.Frag} {mg : Str → Option Value} {base : Heap}
theorem ok_kid_of {f : Addr} {fd : FuncData} (D : DefAt K mg "kid_of" sc_kid_ofS f fd) : CallOk P w K mg base 1 "kid_of" sc_kid_ofP spKid := by
  refine D.call sc_kid_of (fun vs H Q E h => ?_) (fun _ _ _ _ _ _ us hl => match us, hl with | [_, _], _ => rfl) (fun cdv A outer s H vs Q E hr h => ?_)
  · obtain ⟨_, _, _, rfl, _⟩ := h
    rfl
  refine ⟨_, (pss_cons (ps_for PassesOwn.never rfl (pi_tup (pe_ix ix_tup (pv 0) pe_int (fun _ _ => rfl))) (pg_name (i := 2) sc_kid_of.nd rfl (Or.inl rfl)) (pss_one (ps_if (pt_cmpR op_eq (pe_ix ix_tup (pv 2) pe_int (fun _ _ => rfl)) (pv 1) (nomark _)) (pss_one (ps_ret (pv 2))) pss_nil))) (pss_one (ps_ret pe_non))), ?_⟩
  obtain ⟨t, a, v, rfl, ht, q1, q2⟩ := h
  obtain ⟨b, w1, kk, us, rfl, h1, h2, h3, h4⟩ := ht.open
  refine ⟨_, rfl, _, _, _, _, rfl, rfl, SqT.of h1, rfl, _, rfl, ⟨_, SqT.of h3⟩, for_tup (xs := us) (fun i σ H' => H' = H ∧ (∃ o, σ = [some (.ref b), some (.str a), o]) ∧ ∀ x ∈ t.kids.take i, x.lab ≠ a) ⟨rfl, ⟨_, rfl⟩, fun x hx => by simp at hx⟩ (fun i σ H' _ p => by rw [p.1]; exact SqT.of h3) ?_ ?_⟩
  · rintro i x σ H' hi ⟨rfl, ⟨o, rfl⟩, hn⟩
    obtain ⟨k, hk, ak⟩ := h4.get hi
    obtain ⟨c, w2, k2, us2, rfl, e1, e2, e3, e4⟩ := ak.open
    refine ⟨_, rfl, _, _, _, _, rfl, rfl, SqT.of e1, rfl, _, rfl, rfl, _, rfl, ?_⟩
    refine ite2 (fun z => ?_) (fun z => ?_)
    · have z := V.str.inj (of_decide_eq_true z)
      exact ⟨_, rfl, q2 k _ (kidOf_first hk hn z) ak⟩
    · refine ⟨rfl, ⟨_, rfl⟩, fun x hx => ?_⟩
      rw [take_succ hk] at hx
      rcases List.mem_append.mp hx with hx | hx
      · exact hn x hx
      · rw [List.mem_singleton.mp hx]
        exact fun e => z (decide_eq_true (by rw [e]))
  · rintro σ H' ⟨rfl, ⟨o, rfl⟩, hn⟩
    rw [h4.len, List.take_length] at hn
    exact q1 (kidOf_none.mpr hn)
theorem ok_node_at {f : Addr} {fd : FuncData} (D : DefAt K mg "node_at" sc_node_atS f fd) (C_kid_of : CallOk P w K mg base 1 "kid_of" sc_kid_ofP spKid) : CallOk P w K mg base 2 "node_at" sc_node_atP spNode := by
  refine D.call sc_node_at (fun vs H Q E h => ?_) (fun _ _ _ _ _ _ us hl => match us, hl with | [_, _], _ => rfl) (fun cdv A outer s H vs Q E hr h => ?_)
  · obtain ⟨_, _, _, _, rfl, _⟩ := h
    rfl
  refine ⟨_, (pss_cons (ps_set (i := 2) sc_node_at.nd rfl (Or.inl rfl) (pv 0)) (pss_cons (ps_for PassesOwn.never rfl (pi_tup (pv 1)) (pg_name (i := 3) sc_node_at.nd rfl (Or.inl rfl)) (pss_one (ps_if (pt_cmpR op_notN (pv 2) pe_non (nomark _)) (pss_one (ps_set (i := 2) sc_node_at.nd rfl (Or.inl rfl) (pe_cal C_kid_of hr (by decide) rfl (pa_cons (pv 2) (pa_cons (pv 3) pa_nil))))) pss_nil))) (pss_one (ps_ret (pv 2))))), ?_⟩
  obtain ⟨t, pl, v, u, rfl, ht, ⟨b, rfl, hb⟩, q1, q2⟩ := h
  refine ⟨_, rfl, _, rfl, b, rfl, ⟨_, SqT.of hb⟩, for_tup (xs := pl.map V.str) (fun i σ H' => H' = H ∧ ∃ y o, σ = [some v, some (.ref b), some y, o] ∧ ((nodeAt t (pl.take i) = none ∧ y = .non) ∨ ∃ n, nodeAt t (pl.take i) = some n ∧ TAt H n y)) ⟨rfl, _, _, rfl, .inr ⟨t, rfl, ht⟩⟩ (fun i σ H' _ p => by rw [p.1]; exact SqT.of hb) ?_ ?_⟩
  · rintro i x σ H' hi ⟨rfl, y, o, rfl, hy⟩
    rw [List.getElem?_map] at hi
    obtain ⟨a, ha, rfl⟩ := Option.map_eq_some_iff.mp hi
    have e : ∀ n, nodeAt t (pl.take i) = some n → nodeAt t (pl.take (i + 1)) = kidOf n.kids a := fun n hn => by
      rw [take_succ ha, nodeAt_app, hn]
      show nodeAt n [a] = _
      rw [nodeAt_cons]
      cases kidOf n.kids a <;> rfl
    rcases hy with ⟨hn, rfl⟩ | ⟨n, hn, an⟩
    · refine ⟨_, rfl, rfl, _, rfl, ?_⟩
      refine iteF ⟨rfl, _, _, rfl, .inl ⟨?_, rfl⟩⟩
      rw [take_succ ha, nodeAt_app, hn]
      rfl
    · have e := e n hn
      have an' := an
      obtain ⟨c, w2, k2, us2, rfl, e1, e2, e3, e4⟩ := an.open
      refine ⟨_, rfl, rfl, _, rfl, ?_⟩
      refine iteT ⟨_, rfl, _, rfl, n, a, _, rfl, an', fun z => ⟨rfl, _, _, rfl, .inl ⟨e.trans z, rfl⟩⟩, fun k u z zk => ⟨rfl, _, _, rfl, .inr ⟨k, e.trans z, zk⟩⟩⟩
  · rintro σ H' ⟨rfl, y, o, rfl, hy⟩
    rw [List.length_map, List.take_length] at hy
    refine ⟨_, rfl, ?_⟩
    rcases hy with ⟨hn, rfl⟩ | ⟨n, hn, an⟩
    · exact q1 hn
    · exact q2 n y hn an
theorem ok_deep_step {f : Addr} {fd : FuncData} {n : Nat} (D : DefAt K mg "deep" sc_deepS f fd) (B : Bt mg) (C_deep : CallOk P w K mg base (n + 1) "deep" sc_deepP (spDeep n)) : CallOk P w K mg base (n + 2) "deep" sc_deepP (spDeep (n + 1)) := by
  refine D.call sc_deep (fun vs H Q E h => ?_) (fun _ _ _ _ _ _ us hl => match us, hl with | [_], _ => rfl) (fun cdv A outer s H vs Q E hr h => ?_)
  · obtain ⟨_, _, rfl, _⟩ := h
    rfl
  refine ⟨_, (pss_one (ps_ret (pe_op op_add pe_int (pe_callBK (cr_maxD rfl) (by rfl) B.max (by decide +kernel) (pa_cons (pe_lc (own := [("kid", 1)]) (g := gName 1) (tt := tYes) rfl sc_deep.nd (pi_tup (pe_ix ix_tup (pv 0) pe_int (fun _ _ => rfl))) (blkOk_by (N := sc_deepN) (sc := defScope sc_deepS) (by decide +kernel)) (fun _ _ _ _ _ => pg_name (i := 1) sc_deep.nd rfl (Or.inl rfl)) (fun _ _ _ _ _ => pts_nil) (fun _ _ _ _ _ => (pe_cal C_deep hr (Nat.le_refl _) rfl (pa_cons (pv 1) pa_nil)))) pa_nil) (pk_cons pe_int pk_nil))))), ?_⟩
  obtain ⟨t, v, rfl, ht, hd, hw, q⟩ := h
  obtain ⟨b, w1, kk, us, rfl, h1, h2, h3, h4⟩ := ht.open
  have hk := hw.len
  refine ⟨_, rfl, _, _, _, _, rfl, rfl, SqT.of h1, rfl, _, rfl, ⟨_, SqT.of h3⟩, fun L hL => lc_tup (xs := us) (fun i H' => Same H H' ∧ H' L = some (.lst ((t.kids.take i).map fun k => .int ((k.deep : Nat) : Int)))) ⟨Same.new hL, upd_same⟩ (fun i H' _ p => SqT.of (p.1 _ _ h3)) ?_ ?_⟩
  · rintro i x H' hi ⟨s1, hl⟩
    obtain ⟨k, hk, ak⟩ := h4.get hi
    have hm := List.mem_of_getElem? hk
    have hkd := deep_kid hm
    refine ⟨rfl, ⟨_, rfl, k, _, rfl, ak.keep (.of s1), by omega, hw.kid k hm, fun H2 s2 => ?_⟩⟩
    refine ⟨_, s2 _ _ hl, small1000 (by rw [List.length_map]; exact Nat.le_trans (List.length_take_le' _ _) (by assumption)), (fun c o e => ?_), ?_⟩
    · have := s1.trans s2 c o e
      rw [upd_ne (ne_of_none e hL)]
      exact this
    · rw [upd_same, take_succ hk, List.map_append]
      rfl
  · rintro H' ⟨s1, hl⟩
    rw [h4.len, List.take_length] at hl
    refine ⟨L, t.kids.map fun k => ((k.deep : Nat) : Int), 0, rfl, rfl, SqL.of (by rw [List.map_map]; exact hl), fun z => ?_, fun m hm => ?_⟩
    · have e : t.kids = [] := List.map_eq_nil_iff.mp z
      refine ⟨_, _, rfl, rfl, ?_⟩
      have := q _ s1
      rw [t.deep_eq, e] at this
      exact this
    · have e := top_deep hm
      refine ⟨_, _, rfl, rfl, ?_⟩
      have := q _ s1
      rw [t.deep_eq] at this
      rw [e]
      have e2 : (1 : Int) + ((deepL t.kids : Nat) : Int) = ((deepL t.kids + 1 : Nat) : Int) := by omega
      show Q (.int (1 + ((deepL t.kids : Nat) : Int))) H'
      rw [e2]
      exact this
theorem ok_law_deep_step {f : Addr} {fd : FuncData} {n : Nat} (D : DefAt K mg "_law_deep" sc_law_deepS f fd) (B : Bt mg) (C_law_deep : CallOk P w K mg base (n + 1) "_law_deep" sc_law_deepP (spDeep n)) : CallOk P w K mg base (n + 2) "_law_deep" sc_law_deepP (spDeep (n + 1)) := by
  refine D.call sc_law_deep (fun vs H Q E h => ?_) (fun _ _ _ _ _ _ us hl => match us, hl with | [_], _ => rfl) (fun cdv A outer s H vs Q E hr h => ?_)
  · obtain ⟨_, _, rfl, _⟩ := h
    rfl
  refine ⟨_, (pss_one (ps_ret (pe_op op_add pe_int (pe_callBK (cr_maxD rfl) (by rfl) B.max (by decide +kernel) (pa_cons (pe_lc (own := [("_law_kid_here", 1)]) (g := gName 1) (tt := tYes) rfl sc_law_deep.nd (pi_tup (pe_ix ix_tup (pv 0) pe_int (fun _ _ => rfl))) (blkOk_by (N := sc_law_deepN) (sc := defScope sc_law_deepS) (by decide +kernel)) (fun _ _ _ _ _ => pg_name (i := 1) sc_law_deep.nd rfl (Or.inl rfl)) (fun _ _ _ _ _ => pts_nil) (fun _ _ _ _ _ => (pe_cal C_law_deep hr (Nat.le_refl _) rfl (pa_cons (pv 1) pa_nil)))) pa_nil) (pk_cons pe_int pk_nil))))), ?_⟩
  obtain ⟨t, v, rfl, ht, hd, hw, q⟩ := h
  obtain ⟨b, w1, kk, us, rfl, h1, h2, h3, h4⟩ := ht.open
  have hk := hw.len
  refine ⟨_, rfl, _, _, _, _, rfl, rfl, SqT.of h1, rfl, _, rfl, ⟨_, SqT.of h3⟩, fun L hL => lc_tup (xs := us) (fun i H' => Same H H' ∧ H' L = some (.lst ((t.kids.take i).map fun k => .int ((k.deep : Nat) : Int)))) ⟨Same.new hL, upd_same⟩ (fun i H' _ p => SqT.of (p.1 _ _ h3)) ?_ ?_⟩
  · rintro i x H' hi ⟨s1, hl⟩
    obtain ⟨k, hk, ak⟩ := h4.get hi
    have hm := List.mem_of_getElem? hk
    have hkd := deep_kid hm
    refine ⟨rfl, ⟨_, rfl, k, _, rfl, ak.keep (.of s1), by omega, hw.kid k hm, fun H2 s2 => ?_⟩⟩
    refine ⟨_, s2 _ _ hl, small1000 (by rw [List.length_map]; exact Nat.le_trans (List.length_take_le' _ _) (by assumption)), (fun c o e => ?_), ?_⟩
    · have := s1.trans s2 c o e
      rw [upd_ne (ne_of_none e hL)]
      exact this
    · rw [upd_same, take_succ hk, List.map_append]
      rfl
  · rintro H' ⟨s1, hl⟩
    rw [h4.len, List.take_length] at hl
    refine ⟨L, t.kids.map fun k => ((k.deep : Nat) : Int), 0, rfl, rfl, SqL.of (by rw [List.map_map]; exact hl), fun z => ?_, fun m hm => ?_⟩
    · have e : t.kids = [] := List.map_eq_nil_iff.mp z
      refine ⟨_, _, rfl, rfl, ?_⟩
      have := q _ s1
      rw [t.deep_eq, e] at this
      exact this
    · have e := top_deep hm
      refine ⟨_, _, rfl, rfl, ?_⟩
      have := q _ s1
      rw [t.deep_eq] at this
      rw [e]
      have e2 : (1 : Int) + ((deepL t.kids : Nat) : Int) = ((deepL t.kids + 1 : Nat) : Int) := by omega
      show Q (.int (1 + ((deepL t.kids : Nat) : Int))) H'
      rw [e2]
      exact this
end
end Cm
end

section
/-! What is done with places: one label more, a cut, compared. -/
namespace Cm
open PySem PySem.Spec PyProof.Rows L2
section
variable {K : PySem.W.Frag} {σ : L2.St} {H : Hp} {Q : VK} {pl ql : Pl} {x y : V}
theorem SAt.new {H : Hp} {p : Addr} {ws : List Str} : SAt (upd H p (.tup (ws.map V.str))) (.ref p) ws := ⟨p, rfl, upd_same⟩
theorem catP {l : Str} {a b : Addr} (ha : H a = some (.tup (pl.map V.str))) (hb : H b = some (.tup [V.str l])) (hz : pl.length ≤ 999) (k : ∀ H' x, Same H H' → SAt H' x (pl ++ [l]) → Q x H') : rCatA K (.ref a) (.ref b) H Q := by
  refine ⟨a, b, _, _, rfl, rfl, SqT.of ha, SqT.of hb, lenOk (by rw [List.length_map]; show pl.length + 1 ≤ 1000; omega), fun e => ?_, fun _ e => (by cases e), fun _ _ p hp => k _ _ (Same.new hp) ⟨p, rfl, ?_⟩⟩
  · have e : pl = [] := List.map_eq_nil_iff.mp e
    subst e
    exact k _ _ (Same.refl _) ⟨b, rfl, hb⟩
  · rw [upd_same, List.map_append]
    rfl
theorem slA {a : Addr} {ws ws' : List Str} {lo hi : Option Int} (ha : H a = some (.tup (ws.map V.str))) (e : cutV (ws.map V.str) lo hi = ws'.map V.str) (k : ∀ H' x, Same H H' → SAt H' x ws' → Q x H') : rSlA K (.ref a) lo hi H Q := by
  refine ⟨a, _, rfl, SqT.of ha, fun z => ?_, fun _ p hp => k _ _ (Same.new hp) ⟨p, rfl, by rw [upd_same, e]⟩⟩
  have e2 : cutV (ws.map V.str) lo hi = ws.map V.str := by
    unfold cutV
    rw [z.1, z.2, List.drop_zero, Nat.sub_zero, List.take_length]
  rw [e] at e2
  exact k _ _ (Same.refl _) ⟨a, rfl, by rw [ha, e2]⟩
theorem sl_tail {a : Addr} {l : Str} (ha : H a = some (.tup ((l :: pl).map V.str))) (k : ∀ H' x, Same H H' → SAt H' x pl → Q x H') : tNoPart σ H fun u H3 => rSlA K (.ref a) (some 1) u H3 Q := by
  refine slA (hi := none) (ws' := pl) ha ?_ k
  unfold cutV
  rw [HT.sIx_none, show (some (1 : Int)) = some ((1 : Nat) : Int) from rfl, HT.sIx_nat, List.map_cons, List.length_cons, Nat.min_eq_left (by omega)]
  show List.take _ (pl.map V.str) = _
  rw [List.take_of_length_le (by omega)]
theorem sl_take {a : Addr} {n : Nat} (ha : H a = some (.tup (pl.map V.str))) (k : ∀ H' x, Same H H' → SAt H' x (pl.take n) → Q x H') : rSlA K (.ref a) none (some (n : Int)) H Q := by
  refine slA (ws' := pl.take n) ha ?_ k
  unfold cutV
  rw [HT.sIx_none, HT.sIx_nat, List.drop_zero, Nat.sub_zero, List.map_take, List.length_map]
  rcases Nat.le_total n pl.length with h | h
  · rw [Nat.min_eq_left h]
  · rw [Nat.min_eq_right h, List.take_of_length_le (by rw [List.length_map]; exact Nat.le_refl _), List.take_of_length_le (by rw [List.length_map]; exact h)]
theorem sl_init {a : Addr} (ha : H a = some (.tup (pl.map V.str))) (k : ∀ H' x, Same H H' → SAt H' x pl.dropLast → Q x H') : rSlA K (.ref a) none (some (-1)) H Q := by
  refine slA (ws' := pl.dropLast) ha ?_ k
  unfold cutV
  rw [HT.sIx_none, List.drop_zero, Nat.sub_zero, List.dropLast_eq_take, List.map_take, List.length_map]
  congr 1
  show (if (-1 : Int) < 0 then ((-1 : Int) + (pl.length : Int)).toNat else min (-1 : Int).toNat pl.length) = pl.length - 1
  rw [if_pos (by decide)]
  omega
theorem eqP (hx : SAt H x pl) (hy : SAt H y ql) (h1 : ∀ a ∈ pl, PyData.strOk a = true) (h2 : ∀ a ∈ ql, PyData.strOk a = true) (q : Q (.bl (decide (pl = ql))) H) : rEqD K x y H Q :=
  ⟨_, _, hx.dp, hy.dp, encS_shaped h1, encS_shaped h2, by rw [encS_eqv]; exact q⟩
theorem neP (hx : SAt H x pl) (hy : SAt H y ql) (h1 : ∀ a ∈ pl, PyData.strOk a = true) (h2 : ∀ a ∈ ql, PyData.strOk a = true) (q : Q (.bl (!decide (pl = ql))) H) : rNeD K x y H Q :=
  ⟨_, _, hx.dp, hy.dp, encS_shaped h1, encS_shaped h2, by rw [encS_eqv]; exact q⟩
theorem eqP0 (hx : SAt H x pl) (h1 : ∀ a ∈ pl, PyData.strOk a = true) (q : ∀ H', Same H H' → Q (.bl (decide (pl = []))) H') : ([] : List V).length ≤ sizeLine ∧ ∀ p, H p = none → rEqD K x (.ref p) (upd H p (.tup [])) Q :=
  ⟨Nat.zero_le _, fun p hp => eqP (hx.keep (.new hp)) ⟨p, rfl, upd_same⟩ h1 (fun a h => by cases h) (q _ (Same.new hp))⟩
theorem neP0 (hx : SAt H x pl) (h1 : ∀ a ∈ pl, PyData.strOk a = true) (q : ∀ H', Same H H' → Q (.bl (!decide (pl = []))) H') : ([] : List V).length ≤ sizeLine ∧ ∀ p, H p = none → rNeD K x (.ref p) (upd H p (.tup [])) Q :=
  ⟨Nat.zero_le _, fun p hp => neP (hx.keep (.new hp)) ⟨p, rfl, upd_same⟩ h1 (fun a h => by cases h) (q _ (Same.new hp))⟩
theorem ix_last {a : Addr} (ha : H a = some (.tup (pl.map V.str))) (hn : pl ≠ []) (q : Q (.str (lastLab pl)) H) : rIxT K (.ref a) (.int (-1)) H Q := by
  refine ⟨a, _, _, _, rfl, rfl, SqT.of ha, ?_, q⟩
  have e : pl = pl.dropLast ++ [pl.getLast hn] := (List.dropLast_concat_getLast hn).symm
  have e2 : lastLab pl = pl.getLast hn := by unfold lastLab; rw [List.getLast?_eq_some_getLast hn]
  rw [e2]
  conv => lhs; rw [e, List.map_append]
  exact atI_last _ _
theorem ix_head {a : Addr} {l : Str} (ha : H a = some (.tup ((l :: pl).map V.str))) (q : Q (.str l) H) : tC (.int 0) σ H fun y H2 => rIxT K (.ref a) y H2 Q := ⟨a, _, _, _, rfl, rfl, SqT.of ha, atI_nat (j := 0) rfl, q⟩
theorem labs_ok {pl : Pl} (h : ∀ a ∈ pl, IsLab a) : ∀ a ∈ pl, PyData.strOk a = true := fun a ha => isLab_ok (h a ha)
end
theorem Same.put {H H1 : Hp} {p : Addr} {o : HO} (h : H p = none) (s : Same H H1) : Same H (upd H1 p o) := fun b u e => by
  rw [upd_ne (ne_of_none e h)]
  exact s b u e
section
variable {P : Program} {w : World} {K : PySem.W.Frag} {mg : Str → Option Value} {base : Heap}
/-- a promise that asks what is never so -/
theorem DefAt.zero {x : Str} {st : Stmt} {f : Addr} {fd : FuncData} {N ps : List Str} {k : Nat} {sp : Sp} (D : DefAt K mg x st f fd) (S : FnScope N ps (defScope st)) 
    (hb : ∀ (kV doc pm : Value) (an : Option Addr) (cdv ct : Value) (us : List Value), us.length = ps.length → bindArgs (PySem.W.fnOf x x (defArgs st) (defBody st) (defScope st) .none kV doc pm an cdv ct) ⟨us, []⟩ = pure (ps.zip us))
    (h0 : ∀ vs H Q E, ¬ sp vs H Q E) : CallOk P w K mg base (k + 1) x ps sp := D.call S (fun vs H Q E h => absurd h (h0 vs H Q E)) hb fun cdv A outer s H vs Q E hr h => absurd h (h0 vs H Q E)
end
end Cm
end

section
/-! A tree with another node at a place: the program's with_node, the law's _law_changed. -/
namespace Cm
open PySem PySem.Spec PyProof.Rows L2
def spWith (n : Nat) : Sp := fun vs H Q _ => ∃ (t nd : T) (pl : Pl) (v u x : V), vs = [v, u, x] ∧ TAt H t v ∧ SAt H u pl ∧ TAt H nd x ∧ (∀ a ∈ pl, IsLab a) ∧ Wd 1000 t ∧ pl.length < n ∧ ∀ H' y, Same H H' → TAt H' (chg (fun _ => nd) t pl) y → Q y H'
theorem tyV_lst {K : PySem.W.Frag} {H : Hp} {l : Addr} {xs : List V} (h : H l = some (.lst xs)) : tyV K "list" (.ref l) H := .inl ⟨rfl, _, .inl (.inl h)⟩
theorem len_kids {ks : List T} {vs : List V} {i : Nat} (h : TsAt H0 (ks.take i) vs) (hk : ks.length ≤ 1000) : vs.length < sizeLine := small1000 (by rw [h.len]; exact Nat.le_trans (List.length_take_le' _ _) hk)
abbrev sc_with_nodeS : Stmt := (top 19)
abbrev sc_with_nodeN : List Str := ["tree", "place", "node", "kids", "kid"]
abbrev sc_with_nodeP : List Str := ["tree", "place", "node"]
theorem sc_with_node : FnScope sc_with_nodeN sc_with_nodeP (defScope sc_with_nodeS) := ⟨rfl, rfl, rfl, by decide +kernel, rfl, by decide +kernel, by decide +kernel⟩
section
variable {P : Program} {w : World} {K : PySem.W.Frag} {mg : Str → Option Value} {base : Heap}
theorem ok_with_node_step {f : Addr} {fd : FuncData} {n : Nat} (D : DefAt K mg "with_node" sc_with_nodeS f fd) (B : Bt mg) (C_with_node : CallOk P w K mg base (n + 1) "with_node" sc_with_nodeP (spWith n)) : CallOk P w K mg base (n + 2) "with_node" sc_with_nodeP (spWith (n + 1)) := by
  refine D.call sc_with_node (fun vs H Q E h => ?_) (fun _ _ _ _ _ _ us hl => match us, hl with | [_, _, _], _ => rfl) (fun cdv A outer s H vs Q E hr h => ?_)
  · obtain ⟨_, _, _, _, _, _, rfl, _⟩ := h
    rfl
  have hu64 := hr.units
  refine ⟨_, (pss_cons (ps_if (pt_cmpR (op_eqD hu64) (pv 1) (pe_tup pa_nil) (nomark _)) (pss_one (ps_ret (pv 2))) pss_nil) (pss_cons (ps_set (i := 3) sc_with_node.nd rfl (Or.inl rfl) (pe_lst pa_nil)) (pss_cons (ps_for PassesOwn.never rfl (pi_tup (pe_ix ix_tup (pv 0) pe_int (fun _ _ => rfl))) (pg_name (i := 4) sc_with_node.nd rfl (Or.inl rfl)) (pss_one (ps_if (pt_cmpR op_eq (pe_ix ix_tup (pv 4) pe_int (fun _ _ => rfl)) (pe_ix ix_tup (pv 1) pe_int (fun _ _ => rfl)) (nomark _)) (pss_one (ps_expr (pe_bm PySem.F.plainAttrs_list PySem.F.slot_list_append PySem.F.type_list_append mt_append (pv 3) (pa_cons (pe_cal C_with_node hr (Nat.le_refl _) rfl (pa_cons (pv 4) (pa_cons (pe_slice sl_tupA (pv 1) (po_some pe_int) po_none) (pa_cons (pv 2) pa_nil)))) pa_nil)))) (pss_one (ps_expr (pe_bm PySem.F.plainAttrs_list PySem.F.slot_list_append PySem.F.type_list_append mt_append (pv 3) (pa_cons (pv 4) pa_nil))))))) (pss_one (ps_ret (pe_tup (pa_cons (pe_ix ix_tup (pv 0) pe_int (fun _ _ => rfl)) (pa_cons (pe_ix ix_tup (pv 0) pe_int (fun _ _ => rfl)) (pa_cons (pe_callTy call_tuple_of (by rfl) B.tuple (by decide +kernel) (pa_cons (pv 3) pa_nil)) pa_nil))))))))), ?_⟩
  obtain ⟨t, nd, pl, v, u, x, rfl, ht, hp, hx, hlab, hw, hn, q⟩ := h
  refine ⟨_, rfl, eqP0 hp (labs_ok hlab) fun H1 s1 => ⟨_, rfl, ?_⟩⟩
  cases pl with
  | nil => exact iteT ⟨_, rfl, q _ _ s1 (hx.keep (.of s1))⟩
  | cons a pl =>
    refine iteF ⟨Nat.zero_le _, fun L hL => ?_⟩
    have ht1 := ht
    obtain ⟨b, w1, kk, us, rfl, h1, h2, h3, h4⟩ := ht.open
    obtain ⟨c, rfl, hc⟩ := hp
    have s2 : Same H (upd H1 L (.lst [])) := s1.trans (Same.new hL)
    have hL0 : H L = none := s1.free hL
    refine ⟨_, rfl, _, _, _, _, rfl, rfl, SqT.of (s2 _ _ h1), atI_nat (j := 2) rfl, _, rfl, ⟨_, SqT.of (s2 _ _ h3)⟩, for_tup (xs := us) (fun i σ H' => Same H H' ∧ ∃ o vs, σ = [some (.ref b), some (.ref c), some x, some (.ref L), o] ∧ H' L = some (.lst vs) ∧ TsAt H' ((t.kids.map fun k => if k.lab = a then chg (fun _ => nd) k pl else k).take i) vs) ⟨s2, _, _, rfl, upd_same, tsAt_nil.mpr rfl⟩ (fun i σ H' _ p => SqT.of (p.1 _ _ h3)) ?_ ?_⟩
    · rintro i y σ H' hi ⟨s3, o, vs, rfl, hl, hvs⟩
      obtain ⟨k, hk, ak⟩ := h4.get hi
      have ak3 := ak.keep (.of s3)
      have hm := List.mem_of_getElem? hk
      obtain ⟨d, w2, k2, us2, rfl, e1, e2, e3, e4⟩ := ak3.open
      have hlen : vs.length < sizeLine := small1000 (by rw [hvs.len]; exact Nat.le_trans (List.length_take_le' _ _) (by rw [List.length_map]; exact hw.len))
      have put : ∀ (H2 : Hp) (z : V), Same H' H2 → TAt H2 (if k.lab = a then chg (fun _ => nd) k pl else k) z → Same H (upd H2 L (.lst (vs ++ [z]))) ∧ ∃ o' vs', [some (V.ref b), some (V.ref c), some x, some (.ref L), some (.ref d)] = [some (V.ref b), some (.ref c), some x, some (.ref L), o'] ∧ upd H2 L (.lst (vs ++ [z])) L = some (.lst vs') ∧ TsAt (upd H2 L (.lst (vs ++ [z]))) ((t.kids.map fun k => if k.lab = a then chg (fun _ => nd) k pl else k).take (i + 1)) vs' := by
        intro H2 z s4 hz
        have tk : TupK H2 (upd H2 L (.lst (vs ++ [z]))) := .put (s4 _ _ hl) fun _ z => by cases z
        refine ⟨Same.put hL0 (s3.trans s4), _, _, rfl, upd_same, ?_⟩
        rw [take_succ (x := if k.lab = a then chg (fun _ => nd) k pl else k) (by rw [List.getElem?_map, hk]; rfl)]
        exact ((hvs.keep (.of s4)).keep tk).app (.one (hz.keep tk))
      refine ⟨_, rfl, _, _, _, _, rfl, rfl, SqT.of e1, atI_nat (j := 0) rfl, _, rfl, _, _, _, _, rfl, rfl, SqT.of (s3 _ _ hc), atI_nat (j := 0) rfl, rfl, _, rfl, ?_⟩
      refine ite2 (fun z => ?_) (fun z => ?_)
      · have z := V.str.inj (of_decide_eq_true z)
        refine ⟨_, rfl, tyV_lst hl, _, rfl, _, rfl, _, rfl, sl_tail (s3 _ _ hc) fun H2 u2 s4 hu2 => ?_⟩
        refine ⟨_, rfl, k, nd, pl, _, _, _, rfl, ak3.keep (.of s4), hu2, hx.keep (.of (s3.trans s4)), fun b hb => hlab b (List.mem_cons_of_mem _ hb), hw.kid k hm, by rw [List.length_cons] at hn; omega, fun H3 z3 s5 hz3 => ?_⟩
        refine ⟨L, vs, z3, rfl, rfl, s5 _ _ (s4 _ _ hl), hlen, put H3 z3 (s4.trans s5) ?_⟩
        rw [if_pos z]
        exact hz3
      · have z : ¬ k.lab = a := fun e => z (decide_eq_true (by rw [e]))
        refine ⟨_, rfl, tyV_lst hl, _, rfl, L, vs, _, rfl, rfl, hl, hlen, put H' _ (Same.refl _) ?_⟩
        rw [if_neg z]
        exact ak3
    · rintro σ H' ⟨s3, o, vs, rfl, hl, hvs⟩
      rw [h4.len, List.take_of_length_le (by rw [List.length_map]; exact Nat.le_refl _)] at hvs
      refine ⟨_, rfl, _, _, _, _, rfl, rfl, SqT.of (s3 _ _ h1), atI_nat (j := 0) rfl, _, rfl, _, _, _, _, rfl, rfl, SqT.of (s3 _ _ h1), atI_nat (j := 1) rfl, _, rfl, L, vs, rfl, .inl ⟨SqL.of hl, fun p hp => ⟨by show 3 ≤ sizeLine; decide, fun r hr2 => ?_⟩⟩⟩
      have s4 : Same H' (upd H' p (.tup vs)) := Same.new hp
      have s5 : Same (upd H' p (.tup vs)) (upd (upd H' p (.tup vs)) r (.tup [.str t.lab, .ref w1, .ref p])) := Same.new hr2
      have s6 := (s3.trans s4).trans s5
      refine q _ _ s6 ?_
      rw [chg_cons]
      exact TAt.mk upd_same (s6 _ _ h2) (s5 _ _ upd_same) (hvs.keep (.of (s4.trans s5)))
end
end Cm
end

section
/-! A comprehension that picks kids; cuts and sums of rows of values. -/
namespace Cm
open PySem PySem.Spec PyProof.Rows L2
/-- what a comprehension over a tuple at a asks, from its new list D on -/
def LcT (K : PySem.W.Frag) (a : Addr) (g : TG) (tt : TT) (te : TE) (vs : List Nat) (σ : L2.St) (H1 : Hp) (D : Addr) (Qd : Hp → Prop) : Prop :=
  ∃ W : Nat → Nat → Hp → Prop, (∃ m, W 0 m (upd H1 D (.lst []))) ∧ ∀ i m H, W i m H →
      ((Itt K a).stop i H ∧ Qd H) ∨ ((Itt K a).go i H ∧ ∃ Nx : Hp → Prop, (∀ H', Nx H' → ∃ m', m' < m ∧ W (i + 1) m' H') ∧ ∀ x H', (Itt K a).yld i H x H' → g x (wipe σ vs) H' fun σ2 H2 => wipe σ2 vs = wipe σ vs ∧ tt σ2 H2 fun b H3 =>
        if b = true then te σ2 H3 fun y H4 => ∃ acc, H4 D = some (.lst acc) ∧ acc.length < sizeLine ∧ Nx (upd H4 D (.lst (acc ++ [y]))) else Nx H3)
theorem lc_pick {K : PySem.W.Frag} {a : Addr} {tt : TT} {j : Nat} {σ : L2.St} {H1 : Hp} {D : Addr} {Qd : Hp → Prop} {ks : List T} {us : List V} {p : T → Bool} (h3 : H1 a = some (.tup us)) (h4 : TsAt H1 ks us) (hk : ks.length ≤ 1000) (hD : H1 D = none) (hj : j < σ.length)
    (ht : ∀ k x H', k ∈ ks → Same H1 H' → TAt H' k x → ∀ R : Bool → Hp → Prop, (∀ H2, Same H' H2 → R (p k) H2) → tt ((wipe σ [j]).set j (some x)) H' R) (q : ∀ H' vs, Same H1 H' → H' D = some (.lst vs) → TsAt H' (ks.filter p) vs → Qd H') : LcT K a (gName j) tt (tVar j) [j] σ H1 D Qd := by
  refine lc_tup (xs := us) (fun i H' => Same H1 H' ∧ ∃ vs, H' D = some (.lst vs) ∧ TsAt H' ((ks.take i).filter p) vs) ⟨Same.new hD, _, upd_same, tsAt_nil.mpr rfl⟩ (fun i H' _ s => SqT.of (s.1 _ _ h3)) ?_ ?_
  · rintro i x H' hi ⟨s1, vs, hl, hv⟩
    obtain ⟨k, hk1, ak⟩ := h4.get hi
    have hm := List.mem_of_getElem? hk1
    refine ⟨?_, ht k x H' hm s1 (ak.keep (.of s1)) _ fun H2 s2 => ?_⟩
    · show (List.set (List.set (List.set σ j none) j (some x)) j none) = _
      rw [List.set_set, List.set_set]
      rfl
    have e : (ks.take (i + 1)).filter p = (ks.take i).filter p ++ (if p k = true then [k] else []) := by
      rw [take_succ hk1, List.filter_append]
      congr 1
      cases hp : p k <;> simp [hp]
    cases hp : p k with
    | true =>
      refine iteT ⟨x, ?_, vs, s2 _ _ hl, small1000 (by rw [hv.len]; exact Nat.le_trans (List.length_filter_le _ _) (Nat.le_trans (List.length_take_le' _ _) hk)), Same.put hD (s1.trans s2), _, upd_same, ?_⟩
      · show (List.set (List.set σ j none) j (some x))[j]? = _
        rw [List.getElem?_set_self (by rw [List.length_set]; exact hj)]
      · rw [e, hp, if_pos rfl]
        have tk : TupK H2 (upd H2 D (.lst (vs ++ [x]))) := .put (s2 _ _ hl) fun _ z => by cases z
        exact ((hv.keep (.of s2)).keep tk).app (.one (((ak.keep (.of s1)).keep (.of s2)).keep tk))
    | false =>
      refine iteF ⟨s1.trans s2, vs, s2 _ _ hl, ?_⟩
      rw [e, hp, if_neg Bool.false_ne_true, List.append_nil]
      exact hv.keep (.of s2)
  · rintro H' ⟨s1, vs, hl, hv⟩
    rw [h4.len, List.take_length] at hv
    exact q H' vs s1 hl hv
section
variable {K : PySem.W.Frag} {σ : L2.St} {H : Hp} {Q : VK}
/-- t[n:] of any tuple -/
theorem sl_from {a : Addr} {xs : List V} {n : Nat} (ha : H a = some (.tup xs)) (k : ∀ H' r, Same H H' → H' r = some (.tup (xs.drop n)) → Q (.ref r) H') : tNoPart σ H fun u H3 => rSlA K (.ref a) (some (n : Int)) u H3 Q := by
  have e : cutV xs (some (n : Int)) none = xs.drop n := by
    unfold cutV
    rw [HT.sIx_none, HT.sIx_nat]
    rcases Nat.le_total n xs.length with h | h
    · rw [Nat.min_eq_left h, List.take_of_length_le (by rw [List.length_drop]; exact Nat.le_refl _)]
    · rw [Nat.min_eq_right h, List.drop_length, List.take_nil, List.drop_eq_nil_of_le h]
  refine ⟨a, xs, rfl, SqT.of ha, fun z => ?_, fun _ p hp => k _ _ (Same.new hp) (by rw [upd_same, e])⟩
  refine k _ _ (Same.refl _) ?_
  rw [ha, ← e]
  unfold cutV
  rw [z.1, z.2, List.drop_zero, Nat.sub_zero, List.take_length]
end
/-- where the node's three parts stand -/
theorem TAt.parts {H : Hp} {t : T} {v : V} (h : TAt H t v) : ∃ (a w k : Addr) (vs : List V), v = .ref a ∧ H a = some (.tup [.str t.lab, .ref w, .ref k]) ∧ SAt H (.ref w) t.wds ∧ H k = some (.tup vs) ∧ TsAt H t.kids vs := by
  obtain ⟨a, w, k, vs, h0, h1, h2, h3, h4⟩ := h.open
  exact ⟨a, w, k, vs, h0, h1, ⟨w, rfl, h2⟩, h3, h4⟩
theorem TAt.mk2 {H : Hp} {l : Str} {ws : List Str} {ks : List T} {a : Addr} {w : V} {k : Addr} {vs : List V} (h1 : H a = some (.tup [.str l, w, .ref k])) (h2 : SAt H w ws) (h3 : H k = some (.tup vs)) (h4 : TsAt H ks vs) : TAt H (.mk l ws ks) (.ref a) := by
  obtain ⟨b, rfl, hb⟩ := h2
  exact .mk h1 hb h3 h4
end Cm
end

section
/-! The program's three ways to change a tree. -/
namespace Cm
open PySem PySem.Spec PyProof.Rows L2
def spThere : Sp := fun vs H Q _ => ∃ (t n : T) (pl : Pl) (v u : V), vs = [v, u] ∧ TAt H t v ∧ SAt H u pl ∧ nodeAt t pl = some n ∧ ∀ x, TAt H n x → Q x H
/-- what the ways to change have in common: the tree, the place (with its label's bounds), the node there -/
def Way (t n : T) (pl : Pl) : Prop := Wf t ∧ Wd 900 t ∧ pl.length ≤ 8 ∧ nodeAt t pl = some n
def spWds : Sp := fun vs H Q _ => ∃ (t n : T) (pl : Pl) (ws : List Str) (v u x : V), vs = [v, u, x] ∧ TAt H t v ∧ SAt H u pl ∧ SAt H x ws ∧ Way t n pl ∧ ∀ H' y, Same H H' → TAt H' (chg (fun _ => fRead ws n) t pl) y → Q y H'
def spKidIn : Sp := fun vs H Q _ => ∃ (t n m : T) (pl : Pl) (v u x : V), vs = [v, u, x] ∧ TAt H t v ∧ SAt H u pl ∧ TAt H m x ∧ Way t n pl ∧ IsLab m.lab ∧ kidOf n.kids m.lab = none ∧ ∀ H' y, Same H H' → TAt H' (chg (fun _ => fPut m n) t pl) y → Q y H'
def spWout : Sp := fun vs H Q _ => ∃ (t m n : T) (pl : Pl) (v u : V), vs = [v, u] ∧ TAt H t v ∧ SAt H u pl ∧ pl ≠ [] ∧ pl.length ≤ 8 ∧ Wf t ∧ Wd 900 t ∧ nodeAt t pl = some m ∧ nodeAt t pl.dropLast = some n ∧ ∀ H' y, Same H H' → TAt H' (chg (fun _ => fOut (lastLab pl) n) t pl.dropLast) y → Q y H'
theorem Way.labs {t n : T} {pl : Pl} (h : Way t n pl) : ∀ a ∈ pl, IsLab a := nodeAt_labs h.1 h.2.2.2
theorem Way.nd {t n : T} {pl : Pl} (h : Way t n pl) : Wf n := nodeAt_wf h.1 h.2.2.2
theorem wd1000 {t : T} (h : Wd 900 t) : Wd 1000 t := h.mono (by decide) t
theorem wd_at {n : T} {m : Nat} : ∀ {pl : Pl} {t : T}, Wd m t → nodeAt t pl = some n → Wd m n
  | [], t, h, e => by
    cases e
    exact h
  | a :: pl, t, h, e => by
    rw [nodeAt_cons] at e
    cases hk : kidOf t.kids a with
    | none => rw [hk] at e; cases e
    | some k =>
      rw [hk] at e
      exact wd_at (t := k) (h.kid k (kidOf_some hk).1) e
abbrev sc_there_atS : Stmt := (top 20)
abbrev sc_there_atN : List Str := ["tree", "place", "node"]
abbrev sc_there_atP : List Str := ["tree", "place"]
theorem sc_there_at : FnScope sc_there_atN sc_there_atP (defScope sc_there_atS) := ⟨rfl, rfl, rfl, by decide +kernel, rfl, by decide +kernel, by decide +kernel⟩
abbrev sc_with_wordsS : Stmt := (top 21)
abbrev sc_with_wordsN : List Str := ["tree", "place", "words", "node"]
abbrev sc_with_wordsP : List Str := ["tree", "place", "words"]
theorem sc_with_words : FnScope sc_with_wordsN sc_with_wordsP (defScope sc_with_wordsS) := ⟨rfl, rfl, rfl, by decide +kernel, rfl, by decide +kernel, by decide +kernel⟩
abbrev sc_with_kidS : Stmt := (top 22)
abbrev sc_with_kidN : List Str := ["tree", "place", "node", "above", "ahead", "kids", "kid"]
abbrev sc_with_kidP : List Str := ["tree", "place", "node"]
theorem sc_with_kid : FnScope sc_with_kidN sc_with_kidP (defScope sc_with_kidS) := ⟨rfl, rfl, rfl, by decide +kernel, rfl, by decide +kernel, by decide +kernel⟩
abbrev sc_withoutS : Stmt := (top 23)
abbrev sc_withoutN : List Str := ["tree", "place", "above", "kids", "kid"]
abbrev sc_withoutP : List Str := ["tree", "place"]
theorem sc_without : FnScope sc_withoutN sc_withoutP (defScope sc_withoutS) := ⟨rfl, rfl, rfl, by decide +kernel, rfl, by decide +kernel, by decide +kernel⟩
section
variable {P : Program} {w : World} {K : PySem.W.Frag} {mg : Str → Option Value} {base : Heap}
theorem ok_there_at {f : Addr} {fd : FuncData} (D : DefAt K mg "there_at" sc_there_atS f fd) (C_node_at : CallOk P w K mg base 2 "node_at" sc_node_atP spNode) : CallOk P w K mg base 3 "there_at" sc_there_atP spThere := by
  refine D.call sc_there_at (fun vs H Q E h => ?_) (fun _ _ _ _ _ _ us hl => match us, hl with | [_, _], _ => rfl) (fun cdv A outer s H vs Q E hr h => ?_)
  · obtain ⟨_, _, _, _, _, rfl, _⟩ := h
    rfl
  refine ⟨_, (pss_cons (ps_set (i := 2) sc_there_at.nd rfl (Or.inl rfl) (pe_cal C_node_at hr (by decide) rfl (pa_cons (pv 0) (pa_cons (pv 1) pa_nil)))) (pss_cons (ps_if (pt_cmpR op_isN (pv 2) pe_non (nomark _)) (pss_one ps_never) pss_nil) (pss_one (ps_ret (pv 2))))), ?_⟩
  obtain ⟨t, n, pl, v, u, rfl, ht, hu, hn, q⟩ := h
  refine ⟨_, rfl, _, rfl, t, pl, _, _, rfl, ht, hu, fun z => (by rw [hn] at z; cases z), fun m x hm hx => ?_⟩
  rw [hn] at hm
  cases hm
  obtain ⟨a, _, _, _, rfl, _⟩ := hx.open
  exact ⟨_, rfl, rfl, _, rfl, iteF ⟨_, rfl, q _ hx⟩⟩
theorem ok_with_words {f : Addr} {fd : FuncData} (D : DefAt K mg "with_words" sc_with_wordsS f fd) (C_there_at : CallOk P w K mg base 3 "there_at" sc_there_atP spThere) (C_with_node : CallOk P w K mg base 10 "with_node" sc_with_nodeP (spWith 9)) : CallOk P w K mg base 11 "with_words" sc_with_wordsP spWds := by
  refine D.call sc_with_words (fun vs H Q E h => ?_) (fun _ _ _ _ _ _ us hl => match us, hl with | [_, _, _], _ => rfl) (fun cdv A outer s H vs Q E hr h => ?_)
  · obtain ⟨_, _, _, _, _, _, _, rfl, _⟩ := h
    rfl
  refine ⟨_, (pss_cons (ps_set (i := 3) sc_with_words.nd rfl (Or.inl rfl) (pe_cal C_there_at hr (by decide) rfl (pa_cons (pv 0) (pa_cons (pv 1) pa_nil)))) (pss_one (ps_ret (pe_cal C_with_node hr (by decide) rfl (pa_cons (pv 0) (pa_cons (pv 1) (pa_cons (pe_tup (pa_cons (pe_ix (r := rIxT K) ix_tup (pv 3) pe_int (fun _ _ => rfl)) (pa_cons (pv 2) (pa_cons (pe_ix (r := rIxT K) ix_tup (pv 3) pe_int (fun _ _ => rfl)) pa_nil)))) pa_nil))))))), ?_⟩
  obtain ⟨t, n, pl, ws, v, u, x, rfl, ht, hu, hx, hw, q⟩ := h
  refine ⟨_, rfl, _, rfl, t, n, pl, _, _, rfl, ht, hu, hw.2.2.2, fun y hy => ?_⟩
  obtain ⟨a, w1, k, vs, rfl, h1, h2, h3, h4⟩ := hy.parts
  refine ⟨_, rfl, _, rfl, _, rfl, _, _, _, _, rfl, rfl, SqT.of h1, atI_nat (j := 0) rfl, _, rfl, _, rfl, _, _, _, _, rfl, rfl, SqT.of h1, atI_nat (j := 2) rfl, by show 3 ≤ sizeLine; decide, fun p hp => ?_⟩
  have s1 : Same H (upd H p (.tup [.str n.lab, x, .ref k])) := Same.new hp
  exact ⟨t, fRead ws n, pl, _, _, _, rfl, ht.keep (.of s1), hu.keep (.of s1), TAt.mk2 upd_same (hx.keep (.of s1)) (s1 _ _ h3) (h4.keep (.of s1)), hw.labs, wd1000 hw.2.1, by have := hw.2.2.1; omega, fun H' y s2 hy => q H' y (s1.trans s2) hy⟩
theorem ok_with_kid {f : Addr} {fd : FuncData} (D : DefAt K mg "with_kid" sc_with_kidS f fd) (B : Bt mg) (C_there_at : CallOk P w K mg base 3 "there_at" sc_there_atP spThere) (C_kid_of : CallOk P w K mg base 1 "kid_of" sc_kid_ofP spKid) (C_label_before : CallOk P w K mg base 3 "label_before" sc_label_beforeP spBef) (C_with_node : CallOk P w K mg base 10 "with_node" sc_with_nodeP (spWith 9)) : CallOk P w K mg base 11 "with_kid" sc_with_kidP spKidIn := by
  refine D.call sc_with_kid (fun vs H Q E h => ?_) (fun _ _ _ _ _ _ us hl => match us, hl with | [_, _, _], _ => rfl) (fun cdv A outer s H vs Q E hr h => ?_)
  · obtain ⟨_, _, _, _, _, _, _, rfl, _⟩ := h
    rfl
  refine ⟨_, (pss_cons (ps_set (i := 3) sc_with_kid.nd rfl (Or.inl rfl) (pe_cal C_there_at hr (by decide) rfl (pa_cons (pv 0) (pa_cons (pv 1) pa_nil)))) (pss_cons (ps_if (pt_cmpR op_notN (pe_cal C_kid_of hr (by decide) rfl (pa_cons (pv 3) (pa_cons (pe_ix (r := rIxT K) ix_tup (pv 2) pe_int (fun _ _ => rfl)) pa_nil))) pe_non (nomark _)) (pss_one ps_never) pss_nil) (pss_cons (ps_setLc (i := 4) (own := [("kid", 6)]) (g := gName 6) rfl sc_with_kid.nd rfl rfl (sw_true rfl rfl rfl (by decide +kernel)) (pi_tup (pe_ix (r := rIxT K) ix_tup (pv 3) pe_int (fun _ _ => rfl))) (blkOk_by (N := sc_with_kidN) (sc := defScope sc_with_kidS) (by decide +kernel)) (fun _ _ _ _ _ => pg_name (i := 6) sc_with_kid.nd rfl (Or.inl rfl)) (fun _ _ _ _ _ => (pts_one (pt_val (pe_cal C_label_before hr (by decide) rfl (pa_cons (pe_ix (r := rIxT K) ix_tup (pv 6) pe_int (fun _ _ => rfl)) (pa_cons (pe_ix (r := rIxT K) ix_tup (pv 2) pe_int (fun _ _ => rfl)) pa_nil)))))) (fun _ _ _ _ _ => (pv 6))) (pss_cons (ps_set (i := 5) sc_with_kid.nd rfl (Or.inl rfl) (pe_callTy call_tuple_of (by rfl) B.tuple (by decide +kernel) (pa_cons (pe_op op_cat (pe_op op_cat (pv 4) (pe_lst (pa_cons (pv 2) pa_nil))) (pe_callTy call_list_of (by rfl) B.list (by decide +kernel) (pa_cons (pe_slice (r := rSlA K) sl_tupA (pe_ix (r := rIxT K) ix_tup (pv 3) pe_int (fun _ _ => rfl)) (po_some (pe_callB (r := Evl.rLenS K) call_len_seq (by rfl) B.len PySem.boot_len (pa_cons (pv 4) pa_nil))) po_none) pa_nil))) pa_nil))) (pss_one (ps_ret (pe_cal C_with_node hr (by decide) rfl (pa_cons (pv 0) (pa_cons (pv 1) (pa_cons (pe_tup (pa_cons (pe_ix (r := rIxT K) ix_tup (pv 3) pe_int (fun _ _ => rfl)) (pa_cons (pe_ix (r := rIxT K) ix_tup (pv 3) pe_int (fun _ _ => rfl)) (pa_cons (pv 5) pa_nil)))) pa_nil)))))))))), ?_⟩
  obtain ⟨t, n, m, pl, v, u, x, rfl, ht, hu, hx, hw, hml, hno, q⟩ := h
  refine ⟨_, rfl, _, rfl, t, n, pl, _, _, rfl, ht, hu, hw.2.2.2, fun y hy => ?_⟩
  have hy0 := hy
  have hx0 := hx
  obtain ⟨a, w1, k, vs, rfl, h1, h2, h3, h4⟩ := hy.parts
  obtain ⟨b, w2, k2, vs2, rfl, g1, g2, g3, g4⟩ := hx.parts
  have hwn := hw.nd
  have hlen : n.kids.length ≤ 900 := (wd_at hw.2.1 hw.2.2.2).len
  refine ⟨_, rfl, _, rfl, _, _, _, _, rfl, rfl, SqT.of g1, atI_nat (j := 0) rfl, n, m.lab, _, rfl, hy0, fun _ => ⟨rfl, _, rfl, iteF ?_⟩, fun k u z => (by rw [hno] at z; cases z)⟩
  refine ⟨_, rfl, _, _, _, _, rfl, rfl, SqT.of h1, atI_nat (j := 2) rfl, _, rfl, ⟨_, SqT.of h3⟩, fun L hL => lc_pick (p := fun k => decide (klt (key k.lab) (key m.lab))) h3 h4 (by omega) hL (by show 6 < 7; decide) ?_ ?_⟩
  · intro kd z H' hm s1 hz R hR
    obtain ⟨c, w3, k3, vs3, rfl, e1, e2, e3, e4⟩ := hz.parts
    exact ⟨_, rfl, _, _, _, _, rfl, rfl, SqT.of e1, atI_nat (j := 0) rfl, _, rfl, _, _, _, _, rfl, rfl, SqT.of (s1 _ _ g1), atI_nat (j := 0) rfl, _, _, rfl, hwn.labs kd hm, hml, fun H2 s2 => ⟨_, rfl, hR H2 s2⟩⟩
  · intro H1 as s1 hl has
    refine ⟨_, rfl, _, rfl, by show 1 ≤ sizeLine; decide, fun M hM => ?_⟩
    have s2 : Same H1 (upd H1 M (.lst [.ref b])) := Same.new hM
    have lf : (n.kids.filter fun k => decide (klt (key k.lab) (key m.lab))).length ≤ 900 := Nat.le_trans (List.length_filter_le _ _) hlen
    refine ⟨L, M, _, _, rfl, rfl, s2 _ _ hl, upd_same, lenOk (by have := has.len; show as.length + 1 ≤ 1000; omega), fun N hN => ?_⟩
    have s3 : Same H1 (upd (upd H1 M (.lst [.ref b])) N (.lst (as ++ [.ref b]))) := s2.trans (Same.new hN)
    refine ⟨_, rfl, _, _, _, _, rfl, rfl, SqT.of (s3 _ _ (s1 _ _ h1)), atI_nat (j := 2) rfl, _, rfl, _, _, rfl, .inl (SqL.of (s3 _ _ hl)), _, rfl, sl_from (s3 _ _ (s1 _ _ h3)) fun H4 r s4 hr4 => ?_⟩
    refine ⟨r, _, rfl, .inr (SqT.of hr4), fun O hO => ?_⟩
    have s5 : Same H1 (upd H4 O (.lst (vs.drop as.length))) := (s3.trans s4).trans (Same.new hO)
    have hN4 : upd H4 O (.lst (vs.drop as.length)) N = some (.lst (as ++ [.ref b])) := (Same.new hO) _ _ (s4 _ _ upd_same)
    refine ⟨N, O, _, _, rfl, rfl, hN4, upd_same, lenOk (by rw [List.length_append, List.length_drop]; have := h4.len; have := has.len; show as.length + 1 + _ ≤ 1000; omega), fun R hR => ?_⟩
    have s6 : Same H1 (upd (upd H4 O (.lst (vs.drop as.length))) R (.lst (as ++ [.ref b] ++ vs.drop as.length))) := s5.trans (Same.new hR)
    refine ⟨R, _, rfl, .inl ⟨SqL.of upd_same, fun U hU => ?_⟩⟩
    have s7 := s6.trans (Same.new (o := .tup (as ++ [.ref b] ++ vs.drop as.length)) hU)
    have k7 : Same H _ := s1.trans s7
    refine ⟨_, rfl, _, rfl, _, rfl, _, _, _, _, rfl, rfl, SqT.of (k7 _ _ h1), atI_nat (j := 0) rfl, _, rfl, _, _, _, _, rfl, rfl, SqT.of (k7 _ _ h1), atI_nat (j := 1) rfl, _, rfl, by show 3 ≤ sizeLine; decide, fun p hp => ?_⟩
    have s8 := s7.trans (Same.new (o := .tup [.str n.lab, .ref w1, .ref U]) hp)
    have k8 : Same H _ := s1.trans s8
    have hks : ∀ {G : Hp}, Same H1 G → TsAt G (insK n.kids m) (as ++ [.ref b] ++ vs.drop as.length) := fun {G} s9 => by
      rw [List.append_assoc]
      exact (has.keep (.of s9)).app ((TsAt.one (hx0.keep (.of (s1.trans s9)))).app (by rw [has.len]; exact (h4.drop _).keep (.of (s1.trans s9))))
    exact ⟨t, fPut m n, pl, _, _, _, rfl, ht.keep (.of k8), hu.keep (.of k8), TAt.mk2 upd_same (h2.keep (.of k8)) ((Same.new hp) _ _ upd_same) (hks s8), hw.labs, wd1000 hw.2.1, by have := hw.2.2.1; omega, fun H' y s9 hy => q H' y (k8.trans s9) hy⟩
theorem ok_without {f : Addr} {fd : FuncData} (D : DefAt K mg "without" sc_withoutS f fd) (B : Bt mg) (C_there_at : CallOk P w K mg base 3 "there_at" sc_there_atP spThere) (C_with_node : CallOk P w K mg base 10 "with_node" sc_with_nodeP (spWith 9)) : CallOk P w K mg base 11 "without" sc_withoutP spWout := by
  refine D.call sc_without (fun vs H Q E h => ?_) (fun _ _ _ _ _ _ us hl => match us, hl with | [_, _], _ => rfl) (fun cdv A outer s H vs Q E hr h => ?_)
  · obtain ⟨_, _, _, _, _, _, rfl, _⟩ := h
    rfl
  have hu64 := hr.units
  refine ⟨_, (pss_cons (ps_if (pt_cmpR (r := rEqD K) (op_eqD hu64) (pv 1) (pe_tup pa_nil) (nomark _)) (pss_one ps_never) pss_nil) (pss_cons (ps_expr (pe_cal C_there_at hr (by decide) rfl (pa_cons (pv 0) (pa_cons (pv 1) pa_nil)))) (pss_cons (ps_set (i := 2) sc_without.nd rfl (Or.inl rfl) (pe_cal C_there_at hr (by decide) rfl (pa_cons (pv 0) (pa_cons (pe_slice (r := rSlA K) sl_tupA (pv 1) po_none (po_some (pe_un un_neg pe_int))) pa_nil)))) (pss_cons (ps_set (i := 3) sc_without.nd rfl (Or.inl rfl) (pe_callTy call_tuple_of (by rfl) B.tuple (by decide +kernel) (pa_cons (pe_lc (own := [("kid", 4)]) (g := gName 4) rfl sc_without.nd (pi_tup (pe_ix (r := rIxT K) ix_tup (pv 2) pe_int (fun _ _ => rfl))) (blkOk_by (N := sc_withoutN) (sc := defScope sc_withoutS) (by decide +kernel)) (fun _ _ _ _ _ => pg_name (i := 4) sc_without.nd rfl (Or.inl rfl)) (fun _ _ _ _ _ => (pts_one (pt_cmpR op_ne (pe_ix (r := rIxT K) ix_tup (pv 4) pe_int (fun _ _ => rfl)) (pe_ix (r := rIxT K) ix_tup (pv 1) (pe_un un_neg pe_int) (fun _ _ => rfl)) (nomark _)))) (fun _ _ _ _ _ => (pv 4))) pa_nil))) (pss_one (ps_ret (pe_cal C_with_node hr (by decide) rfl (pa_cons (pv 0) (pa_cons (pe_slice (r := rSlA K) sl_tupA (pv 1) po_none (po_some (pe_un un_neg pe_int))) (pa_cons (pe_tup (pa_cons (pe_ix (r := rIxT K) ix_tup (pv 2) pe_int (fun _ _ => rfl)) (pa_cons (pe_ix (r := rIxT K) ix_tup (pv 2) pe_int (fun _ _ => rfl)) (pa_cons (pv 3) pa_nil)))) pa_nil)))))))))), ?_⟩
  obtain ⟨t, m, n, pl, v, u, rfl, ht, hu, hne, hpl, hwf, hwd, hm, hn, q⟩ := h
  have hlab := nodeAt_labs hwf hm
  refine ⟨_, rfl, eqP0 hu (labs_ok hlab) fun H1 s1 => ⟨_, rfl, ?_⟩⟩
  rw [decide_eq_false hne]
  refine iteF ⟨_, rfl, _, rfl, t, m, pl, _, _, rfl, ht.keep (.of s1), hu.keep (.of s1), hm, fun y _ => ?_⟩
  obtain ⟨c, rfl, hc⟩ := hu
  refine ⟨_, rfl, _, rfl, _, rfl, _, rfl, sl_init (s1 _ _ hc) fun H2 u2 s2 hu2 => ⟨t, n, pl.dropLast, _, _, rfl, ht.keep (.of (s1.trans s2)), hu2, hn, fun y hy => ?_⟩⟩
  have s12 := s1.trans s2
  obtain ⟨a, w1, k, vs, rfl, h1, h2, h3, h4⟩ := hy.parts
  have hlen : n.kids.length ≤ 900 := (wd_at hwd hn).len
  have hwn := nodeAt_wf hwf hn
  refine ⟨_, rfl, _, _, _, _, rfl, rfl, SqT.of h1, atI_nat (j := 2) rfl, _, rfl, ⟨_, SqT.of h3⟩, fun L hL => lc_pick (p := fun k => decide (k.lab ≠ lastLab pl)) h3 h4 (by omega) hL (by show 4 < 5; decide) ?_ ?_⟩
  · intro kd z H' hm s3 hz R hR
    obtain ⟨d, w3, k3, vs3, rfl, e1, e2, e3, e4⟩ := hz.parts
    refine ⟨_, rfl, _, _, _, _, rfl, rfl, SqT.of e1, atI_nat (j := 0) rfl, _, rfl, _, rfl, ix_last (s3 _ _ (s12 _ _ hc)) hne ⟨rfl, _, rfl, ?_⟩⟩
    have := hR H' (Same.refl _)
    have e : (!decide (V.str kd.lab = V.str (lastLab pl))) = decide (kd.lab ≠ lastLab pl) := by simp
    rw [e]
    exact this
  · intro H3 as s3 hl has
    refine ⟨L, _, rfl, .inl ⟨SqL.of hl, fun U hU => ?_⟩⟩
    have s7 := (s12.trans s3).trans (Same.new (o := .tup as) hU)
    have s4 := s3.trans (Same.new (o := .tup as) hU)
    have hcU := s7 _ _ hc
    refine ⟨_, rfl, _, rfl, _, rfl, _, rfl, sl_init hcU fun H5 u5 s5 hu5 => ?_⟩
    refine ⟨_, rfl, _, _, _, _, rfl, rfl, SqT.of (s5 _ _ (s4 _ _ h1)), atI_nat (j := 0) rfl, _, rfl, _, _, _, _, rfl, rfl, SqT.of (s5 _ _ (s4 _ _ h1)), atI_nat (j := 1) rfl, _, rfl, by show 3 ≤ sizeLine; decide, fun p hp => ?_⟩
    have s8 := s5.trans (Same.new (o := .tup [.str n.lab, .ref w1, .ref U]) hp)
    have k8 := s7.trans s8
    have j8 := s4.trans s8
    have hdl : (List.dropLast pl).length ≤ 8 := by rw [List.length_dropLast]; omega
    exact ⟨t, fOut (lastLab pl) n, pl.dropLast, _, _, _, rfl, ht.keep (.of k8), hu5.keep (.of (Same.new hp)), TAt.mk2 upd_same (h2.keep (.of j8)) (s8 _ _ upd_same) (has.keep (.of ((Same.new hU).trans s8))), nodeAt_labs hwf hn, wd1000 hwd, by omega, fun H' y s9 hy => q H' y (k8.trans s9) hy⟩
end
end Cm
end

section
/-! Methods and classes with their promises. -/
namespace Cm
open PySem PySem.Spec PyProof.Rows L2
/-- the method m of the class at C keeps the promise sp -/
structure MethOk (P : Program) (w : World) (K : PySem.W.Frag) (mg : Str → Option Value) (base : Heap) (CX : CXT) (k : Nat) (C : Addr) (m : Str) (ps : List Str) (sp : Sp) : Prop where
  ex : ∃ (f : Addr) (fd : FuncData), Meth K C m f ∧ FnOk P w K mg base CX k f fd ps sp ∧ Binds K fd ps []
/-- the class at C, called x, is made by an __init__ with the promise sp -/
structure MakeOk (P : Program) (w : World) (K : PySem.W.Frag) (mg : Str → Option Value) (base : Heap) (k : Nat) (x : Str) (C : Addr) (ps : List Str) (sp : Sp) : Prop where
  ex : ∃ (f : Addr) (fd : FuncData), Mk K C f ∧ FnOk P w K mg base CX0 k f fd ps sp ∧ Binds K fd ps [] ∧ mg x = some (.ref C)
/-- a method of the text, at f -/
structure DefM (K : PySem.W.Frag) (m q : Str) (st : Stmt) (f : Addr) (fd : FuncData) : Prop where
  F : Fun K m q st f fd
section
variable {X : Cx} {o e : Expr} {es : List Expr} {ta : TE} {t : TA} {apos pos p : Pos} {C : Addr} {m x : Str} {CX : CXT} {j k : Nat} {ps : List Str} {sp : Sp}
theorem pe_mth {E : XK} {pl : Sem Bool} (he : PE X o ta) (c : Cls X.K C) (M : MethOk X.prog X.w X.K X.mg X.base CX j C m ps sp) (hr : Room k X.A) (hj : j ≤ k) (hx : Passes CX X E) (ha : PA X (e :: es) t)
    (hst : starEach (e :: es) X.env = (false, eval e X.env) :: starEach es X.env := by rfl) (hpl : (backTo pos (starEach es X.env)).any (·.1) = false := by rfl)
    (ht : eval (.Call (.Attribute o m apos) (e :: es) [] pos) X.env = (do
      let ov ← eval o X.env
      standAt apos.atName
      let (f, first) ← holding [ov] (getMethod ov m pl)
      callWith pos f first (backTo pos (starEach (e :: es) X.env)) (backToKw pos (keywordEach [] X.env))) := by rfl) :
    PE X (.Call (.Attribute o m apos) (e :: es) [] pos) (tMeth C m sp [] E ta t) := by
  obtain ⟨f, fd, hm, F, hb⟩ := M.ex
  exact pe_meth he c hm F (hr.mono hj) hb .nil hx ha hst hpl ht
/-- .. what is raised is wished for at the caller's slots -/
def tMethE (C : Addr) (m : Str) (sp : Sp) (E : L2.St → XK) (ta : TE) (t : TA) : TE := fun σ H Q => ta σ H fun x H1 => ∃ a dx fs, x = .ref a ∧ H1 a = some (.ins C dx fs) ∧ fs.lookup m = none ∧ t σ H1 fun vs H2 => sp (x :: vs) H2 Q (E σ)
theorem pe_mthE {E : L2.St → XK} {pl : Sem Bool} (he : PE X o ta) (c : Cls X.K C) (M : MethOk X.prog X.w X.K X.mg X.base CX j C m ps sp) (hr : Room k X.A) (hj : j ≤ k) (hx : ∀ σ, PassesAt CX X σ (E σ)) (ha : PA X (e :: es) t)
    (hst : starEach (e :: es) X.env = (false, eval e X.env) :: starEach es X.env := by rfl) (hpl : (backTo pos (starEach es X.env)).any (·.1) = false := by rfl)
    (ht : eval (.Call (.Attribute o m apos) (e :: es) [] pos) X.env = (do
      let ov ← eval o X.env
      standAt apos.atName
      let (f, first) ← holding [ov] (getMethod ov m pl)
      callWith pos f first (backTo pos (starEach (e :: es) X.env)) (backToKw pos (keywordEach [] X.env))) := by rfl) :
    PE X (.Call (.Attribute o m apos) (e :: es) [] pos) (tMethE C m sp E ta t) := by
  obtain ⟨f, fd, hm, F, hb⟩ := M.ex
  refine ⟨fun pins s σ H Q I h => ?_⟩
  refine PySem.W.methodCall_KW (pl := pl) (thn (he.run pins s σ H _ I h) fun u s1 ⟨x, H1, I1, rx, a, dx, fs, ex, ea, l, q⟩ => ?_) ht
  subst ex
  obtain rfl : u = Value.ref a := rx
  refine getmeth_ok I1 ea c hm l ?_
  refine PySem.W.callWith_K (first := [.ref a]) (h₀ := X.base) I.ok.mod.kin hm.kp (thn (ha.run pos pins s1 σ H1 _ I1 q) fun us s2 ⟨vs, H2, I2, r, q2⟩ => ⟨I2.kIn, ?_⟩) hst hpl
  exact run_fnS (us := .ref a :: us) (vs := .ref a :: vs) F (hr.mono hj) hb (hx σ) I2 (.cons rfl r) q2
theorem pe_mk (M : MakeOk X.prog X.w X.K X.mg X.base j x C ps sp) (hr : Room k X.A) (hj : j + 1 ≤ k) (hg : Gl X x) (ha : PA X (e :: es) t) (hdb : (x == ("__debug__" : Str)) = false := by decide)
    (he : starEach (e :: es) X.env = (false, eval e X.env) :: starEach es X.env := by rfl) (hpl : (backTo pos (starEach es X.env)).any (·.1) = false := by rfl) :
    PE X (.Call (.Name x p) (e :: es) [] pos) (tMake C sp [] E0 t) := by
  obtain ⟨f, fd, hm, F, hb, g⟩ := M.ex
  exact pe_make hm F (hr.mono hj) hg g hb .nil pass0 ha hdb he hpl
end
section
variable {P : Program} {w : World} {K : PySem.W.Frag} {mg : Str → Option Value} {base : Heap}
theorem DefM.ok {m q : Str} {st : Stmt} {f : Addr} {fd : FuncData} {N ps : List Str} {k : Nat} {sp : Sp} (D : DefM K m q st f fd) (S : FnScope N ps (defScope st)) (len : ∀ vs H Q E, sp vs H Q E → vs.length = ps.length)
    (hbody : ∀ (cdv : Value) (A : Around) (outer : List Env) (s : Shared) (H : Hp) (vs : List V) (Q : VK) (E : XK), Room k (A.deeper (envOfC q (defScope st) s.heap.objs.size f cdv)) → sp vs H Q E →
      ∃ t, PSs (cxOf CX0 P w K mg base N q (defScope st) f cdv A outer s H E).nox (defBody st) t ∧ t { nx := fun _ H' => Q .non H', rt := Q } (start N vs) H) : FnOk P w K mg base CX0 (k + 1) f fd ps sp := D.F.ok S len hbody
end
end Cm
end

section
/-! The changes: the three classes' instances, why they fit or not, what they make. -/
namespace Cm
open PySem PySem.Spec PyProof.Rows L2
/-- where the classes stand -/
structure Cs where
  R : Addr
  P : Addr
  L : Addr
def Cs.of (c : Cs) : Dr → Addr
  | .read _ _ => c.R
  | .put _ _ => c.P
  | .out _ => c.L
/-- what the written part says of such a class -/
structure ClsF (K : PySem.W.Frag) (C : Addr) : Prop where
  cl : Cls K C
  np : NoAttr K C "place"
  nw : NoAttr K C "words"
  nn : NoAttr K C "node"
structure CsOk (K : PySem.W.Frag) (c : Cs) : Prop where
  R : ClsF K c.R
  P : ClsF K c.P
  L : ClsF K c.L
theorem CsOk.of {K : PySem.W.Frag} {c : Cs} (h : CsOk K c) : ∀ d : Dr, ClsF K (c.of d)
  | .read _ _ => h.R
  | .put _ _ => h.P
  | .out _ => h.L
def chFs : Dr → V → V → List (Str × V)
  | .read _ _, u, x => [("place", u), ("words", x)]
  | .put _ _, u, x => [("place", u), ("node", x)]
  | .out _, u, _ => [("place", u)]
def argAt (H : Hp) : Dr → V → Prop
  | .read _ ws, x => SAt H x ws
  | .put _ n, x => TAt H n x
  | .out _, x => x = .non
/-- the change d stands at v -/
def ChAt (c : Cs) (H : Hp) (d : Dr) (v : V) : Prop := ∃ (a dx : Addr) (u x : V), v = .ref a ∧ H a = some (.ins (c.of d) dx (chFs d u x)) ∧ SAt H u d.pl ∧ argAt H d x
def InsK (H H' : Hp) : Prop := ∀ b C dx fs, H b = some (.ins C dx fs) → H' b = some (.ins C dx fs)
theorem InsK.of {H H' : Hp} (s : Same H H') : InsK H H' := fun b C dx fs h => s b _ h
theorem argAt.keep {H H' : Hp} {d : Dr} {x : V} (k : TupK H H') (h : argAt H d x) : argAt H' d x := by
  cases d with
  | read p ws => exact SAt.keep k h
  | put p n => exact TAt.keep k n h
  | out p => exact h
theorem ChAt.keep {c : Cs} {H H' : Hp} {d : Dr} {v : V} (k : TupK H H') (i : InsK H H') (h : ChAt c H d v) : ChAt c H' d v := by
  obtain ⟨a, dx, u, x, rfl, h1, h2, h3⟩ := h
  exact ⟨a, dx, u, x, rfl, i _ _ _ _ h1, h2.keep k, h3.keep k⟩
theorem ChAt.same {c : Cs} {H H' : Hp} {d : Dr} {v : V} (s : Same H H') (h : ChAt c H d v) : ChAt c H' d v := h.keep (.of s) (.of s)
theorem look_m {d : Dr} {u x : V} : (chFs d u x).lookup ("reason" : Str) = none ∧ (chFs d u x).lookup ("made" : Str) = none ∧ (chFs d u x).lookup ("done" : Str) = none := by
  cases d <;> exact ⟨rfl, rfl, rfl⟩
theorem look_p {d : Dr} {u x : V} : (chFs d u x).lookup ("place" : Str) = some u := by
  cases d <;> rfl
def whyV : Why → V
  | .fits => .non
  | .place => .str "place"
  | .there => .str "there"
  | .deep => .str "deep"
  | .whole => .str "whole"
def Dr.kd : Dr → Nat
  | .read _ _ => 0
  | .put _ _ => 1
  | .out _ => 2
/-- a tree that a change may be asked about -/
def Fit (t : T) (d : Dr) : Prop := Wf t ∧ Wd 900 t ∧ t.deep ≤ 9 ∧ d.Ok
def spReason (c : Cs) (i : Nat) : Sp := fun vs H Q _ => ∃ (t : T) (d : Dr) (v u : V), vs = [v, u] ∧ d.kd = i ∧ ChAt c H d v ∧ TAt H t u ∧ Fit t d ∧ ∀ H', Same H H' → Q (whyV (whyT t d)) H'
def spMade (c : Cs) (i : Nat) : Sp := fun vs H Q _ => ∃ (t : T) (d : Dr) (v u : V), vs = [v, u] ∧ d.kd = i ∧ ChAt c H d v ∧ TAt H t u ∧ Fit t d ∧ whyT t d = .fits ∧ ∀ H' y, Same H H' → TAt H' (resT t d) y → Q y H'
/-- __init__ with one, with two fields -/
def spI1 (C : Addr) : Sp := fun vs H Q _ => ∃ (a dx : Addr) (u : V), vs = [.ref a, u] ∧ H a = some (.ins C dx []) ∧ Q .non (upd H a (.ins C dx [("place", u)]))
def spI2 (C : Addr) (f : Str) : Sp := fun vs H Q _ => ∃ (a dx : Addr) (u x : V), vs = [.ref a, u, x] ∧ H a = some (.ins C dx []) ∧ Q .non (upd (upd H a (.ins C dx [("place", u)])) a (.ins C dx [("place", u), (f, x)]))
theorem in_labs (l : Str) : ∀ ks : List T, inV (.str l) (ks.map fun k => V.str k.lab) = (kidOf ks l).isSome
  | [] => rfl
  | k :: ks => by
    have ih := in_labs l ks
    unfold inV kidOf at *
    rw [List.map_cons, List.any_cons, List.find?_cons, ih]
    show ((k.lab == l) || _) = _
    by_cases h : k.lab = l
    · rw [decide_eq_true h]
      simp [h]
    · have e : (k.lab == l) = false := by simpa using h
      rw [e, decide_eq_false h]
      rfl
abbrev sc_Read_initS : Stmt := (inClass (top 27) 0)
abbrev sc_Read_initN : List Str := ["self", "place", "words"]
abbrev sc_Read_initP : List Str := ["self", "place", "words"]
theorem sc_Read_init : FnScope sc_Read_initN sc_Read_initP (defScope sc_Read_initS) := ⟨rfl, rfl, rfl, by decide +kernel, rfl, by decide +kernel, by decide +kernel⟩
abbrev sc_Read_reasonS : Stmt := (inClass (top 27) 1)
abbrev sc_Read_reasonN : List Str := ["self", "tree"]
abbrev sc_Read_reasonP : List Str := ["self", "tree"]
theorem sc_Read_reason : FnScope sc_Read_reasonN sc_Read_reasonP (defScope sc_Read_reasonS) := ⟨rfl, rfl, rfl, by decide +kernel, rfl, by decide +kernel, by decide +kernel⟩
abbrev sc_Read_madeS : Stmt := (inClass (top 27) 2)
abbrev sc_Read_madeN : List Str := ["self", "tree"]
abbrev sc_Read_madeP : List Str := ["self", "tree"]
theorem sc_Read_made : FnScope sc_Read_madeN sc_Read_madeP (defScope sc_Read_madeS) := ⟨rfl, rfl, rfl, by decide +kernel, rfl, by decide +kernel, by decide +kernel⟩
abbrev sc_PutIn_initS : Stmt := (inClass (top 28) 0)
abbrev sc_PutIn_initN : List Str := ["self", "place", "node"]
abbrev sc_PutIn_initP : List Str := ["self", "place", "node"]
theorem sc_PutIn_init : FnScope sc_PutIn_initN sc_PutIn_initP (defScope sc_PutIn_initS) := ⟨rfl, rfl, rfl, by decide +kernel, rfl, by decide +kernel, by decide +kernel⟩
abbrev sc_PutIn_reasonS : Stmt := (inClass (top 28) 1)
abbrev sc_PutIn_reasonN : List Str := ["self", "tree", "above", "kid"]
abbrev sc_PutIn_reasonP : List Str := ["self", "tree"]
theorem sc_PutIn_reason : FnScope sc_PutIn_reasonN sc_PutIn_reasonP (defScope sc_PutIn_reasonS) := ⟨rfl, rfl, rfl, by decide +kernel, rfl, by decide +kernel, by decide +kernel⟩
abbrev sc_PutIn_madeS : Stmt := (inClass (top 28) 2)
abbrev sc_PutIn_madeN : List Str := ["self", "tree"]
abbrev sc_PutIn_madeP : List Str := ["self", "tree"]
theorem sc_PutIn_made : FnScope sc_PutIn_madeN sc_PutIn_madeP (defScope sc_PutIn_madeS) := ⟨rfl, rfl, rfl, by decide +kernel, rfl, by decide +kernel, by decide +kernel⟩
abbrev sc_LeaveOut_initS : Stmt := (inClass (top 29) 0)
abbrev sc_LeaveOut_initN : List Str := ["self", "place"]
abbrev sc_LeaveOut_initP : List Str := ["self", "place"]
theorem sc_LeaveOut_init : FnScope sc_LeaveOut_initN sc_LeaveOut_initP (defScope sc_LeaveOut_initS) := ⟨rfl, rfl, rfl, by decide +kernel, rfl, by decide +kernel, by decide +kernel⟩
abbrev sc_LeaveOut_reasonS : Stmt := (inClass (top 29) 1)
abbrev sc_LeaveOut_reasonN : List Str := ["self", "tree"]
abbrev sc_LeaveOut_reasonP : List Str := ["self", "tree"]
theorem sc_LeaveOut_reason : FnScope sc_LeaveOut_reasonN sc_LeaveOut_reasonP (defScope sc_LeaveOut_reasonS) := ⟨rfl, rfl, rfl, by decide +kernel, rfl, by decide +kernel, by decide +kernel⟩
abbrev sc_LeaveOut_madeS : Stmt := (inClass (top 29) 2)
abbrev sc_LeaveOut_madeN : List Str := ["self", "tree"]
abbrev sc_LeaveOut_madeP : List Str := ["self", "tree"]
theorem sc_LeaveOut_made : FnScope sc_LeaveOut_madeN sc_LeaveOut_madeP (defScope sc_LeaveOut_madeS) := ⟨rfl, rfl, rfl, by decide +kernel, rfl, by decide +kernel, by decide +kernel⟩
section
variable {P : Program} {w : World} {K : PySem.W.Frag} {mg : Str → Option Value} {base : Heap} {c : Cs}
theorem ok_Read_init {f : Addr} {fd : FuncData} (D : DefM K "__init__" "Read.__init__" sc_Read_initS f fd) (k : ClsF K c.R) : FnOk P w K mg base CX0 1 f fd sc_Read_initP (spI2 c.R "words") := by
  refine D.ok sc_Read_init (fun vs H Q E h => ?_) (fun cdv A outer s H vs Q E hr h => ?_)
  · obtain ⟨_, _, _, _, rfl, _⟩ := h
    rfl
  refine ⟨_, (pss_cons (ps_fld (pv 0) (pv 1) rfl) (pss_one (ps_fld (pv 0) (pv 2) rfl))), ?_⟩
  obtain ⟨a, dx, u, x, rfl, ha, q⟩ := h
  exact ⟨_, rfl, _, rfl, a, _, dx, _, rfl, ha, k.cl, k.np, (by decide : 0 < 1000), _, rfl, _, rfl, a, _, dx, _, rfl, upd_same, k.cl, k.nw, (by decide : 1 < 1000), q⟩
theorem ok_PutIn_init {f : Addr} {fd : FuncData} (D : DefM K "__init__" "PutIn.__init__" sc_PutIn_initS f fd) (k : ClsF K c.P) : FnOk P w K mg base CX0 1 f fd sc_PutIn_initP (spI2 c.P "node") := by
  refine D.ok sc_PutIn_init (fun vs H Q E h => ?_) (fun cdv A outer s H vs Q E hr h => ?_)
  · obtain ⟨_, _, _, _, rfl, _⟩ := h
    rfl
  refine ⟨_, (pss_cons (ps_fld (pv 0) (pv 1) rfl) (pss_one (ps_fld (pv 0) (pv 2) rfl))), ?_⟩
  obtain ⟨a, dx, u, x, rfl, ha, q⟩ := h
  exact ⟨_, rfl, _, rfl, a, _, dx, _, rfl, ha, k.cl, k.np, (by decide : 0 < 1000), _, rfl, _, rfl, a, _, dx, _, rfl, upd_same, k.cl, k.nn, (by decide : 1 < 1000), q⟩
theorem ok_LeaveOut_init {f : Addr} {fd : FuncData} (D : DefM K "__init__" "LeaveOut.__init__" sc_LeaveOut_initS f fd) (k : ClsF K c.L) : FnOk P w K mg base CX0 1 f fd sc_LeaveOut_initP (spI1 c.L) := by
  refine D.ok sc_LeaveOut_init (fun vs H Q E h => ?_) (fun cdv A outer s H vs Q E hr h => ?_)
  · obtain ⟨_, _, _, rfl, _⟩ := h
    rfl
  refine ⟨_, (pss_one (ps_fld (pv 0) (pv 1) rfl)), ?_⟩
  obtain ⟨a, dx, u, rfl, ha, q⟩ := h
  exact ⟨_, rfl, _, rfl, a, _, dx, _, rfl, ha, k.cl, k.np, (by decide : 0 < 1000), q⟩
theorem ok_Read_reason {f : Addr} {fd : FuncData} (D : DefM K "reason" "Read.reason" sc_Read_reasonS f fd) (k : ClsF K c.R) (C_node_at : CallOk P w K mg base 2 "node_at" sc_node_atP spNode) : FnOk P w K mg base CX0 11 f fd sc_Read_reasonP (spReason c 0) := by
  refine D.ok sc_Read_reason (fun vs H Q E h => ?_) (fun cdv A outer s H vs Q E hr h => ?_)
  · obtain ⟨_, _, _, _, rfl, _⟩ := h
    rfl
  refine ⟨_, (pss_cons (ps_if (pt_cmpR op_isN (pe_cal C_node_at hr (by decide) rfl (pa_cons (pv 1) (pa_cons (pe_fld (pv 0) rfl) pa_nil))) pe_non (nomark _)) (pss_one (ps_ret pe_str)) pss_nil) (pss_one (ps_ret pe_non))), ?_⟩
  obtain ⟨t, d, v, u, rfl, hk, ⟨a, dx, pv, x, rfl, ha, hp, hx⟩, ht, hf, q⟩ := h
  cases d with
  | put p n => cases hk
  | out p => cases hk
  | read p ws =>
    refine ⟨_, rfl, _, rfl, a, _, dx, _, _, rfl, ha, k.cl, k.np, look_p, t, p, _, _, rfl, ht, hp, fun z => ⟨rfl, _, rfl, iteT ?_⟩, fun n y z hy => ?_⟩
    · have := q H (Same.refl _)
      rw [whyT_read, z] at this
      exact this
    · obtain ⟨b, _, _, _, rfl, _⟩ := hy.open
      refine ⟨rfl, _, rfl, iteF ?_⟩
      have := q H (Same.refl _)
      rw [whyT_read, z] at this
      exact this
theorem ok_LeaveOut_reason {f : Addr} {fd : FuncData} (D : DefM K "reason" "LeaveOut.reason" sc_LeaveOut_reasonS f fd) (k : ClsF K c.L) (C_node_at : CallOk P w K mg base 2 "node_at" sc_node_atP spNode) : FnOk P w K mg base CX0 11 f fd sc_LeaveOut_reasonP (spReason c 2) := by
  refine D.ok sc_LeaveOut_reason (fun vs H Q E h => ?_) (fun cdv A outer s H vs Q E hr h => ?_)
  · obtain ⟨_, _, _, _, rfl, _⟩ := h
    rfl
  have hu64 := hr.units
  refine ⟨_, (pss_cons (ps_if (pt_cmpR (r := rEqD K) (op_eqD hu64) (pe_fld (pv 0) rfl) (pe_tup pa_nil) (nomark _)) (pss_one (ps_ret pe_str)) pss_nil) (pss_cons (ps_if (pt_cmpR op_isN (pe_cal C_node_at hr (by decide) rfl (pa_cons (pv 1) (pa_cons (pe_fld (pv 0) rfl) pa_nil))) pe_non (nomark _)) (pss_one (ps_ret pe_str)) pss_nil) (pss_one (ps_ret pe_non)))), ?_⟩
  obtain ⟨t, d, v, u, rfl, hk, ⟨a, dx, pv, x, rfl, ha, hp, hx⟩, ht, hf, q⟩ := h
  cases d with
  | read p ws => cases hk
  | put p n => cases hk
  | out p =>
    have hpl := hf.2.2.2.pl
    refine ⟨_, rfl, a, _, dx, _, _, rfl, ha, k.cl, k.np, look_p, eqP0 hp (labs_ok hpl.2) fun H1 s1 => ⟨_, rfl, ?_⟩⟩
    have hq := q
    rw [whyT_out] at hq
    by_cases z0 : p = []
    · subst z0
      exact iteT (hq _ s1)
    · have e0 : decide (Dr.pl (.out p) = []) = false := decide_eq_false z0
      rw [e0]
      rw [if_neg z0] at hq
      refine iteF ⟨_, rfl, _, rfl, a, _, dx, _, _, rfl, s1 _ _ ha, k.cl, k.np, look_p, t, p, _, _, rfl, ht.keep (.of s1), hp.keep (.of s1), fun z => ⟨rfl, _, rfl, iteT ?_⟩, fun n y z hy => ?_⟩
      · rw [z] at hq
        exact hq _ s1
      · obtain ⟨b, _, _, _, rfl, _⟩ := hy.open
        refine ⟨rfl, _, rfl, iteF ?_⟩
        rw [z] at hq
        exact hq _ s1
theorem ok_PutIn_reason {f : Addr} {fd : FuncData} {ft dt : Tok} (D : DefM K "reason" "PutIn.reason" sc_PutIn_reasonS f fd) (B : Bt mg) (T : Cst mg ft dt) (k : ClsF K c.P) (C_node_at : CallOk P w K mg base 2 "node_at" sc_node_atP spNode) (C_deep : CallOk P w K mg base 10 "deep" sc_deepP (spDeep 9)) : FnOk P w K mg base CX0 11 f fd sc_PutIn_reasonP (spReason c 1) := by
  refine D.ok sc_PutIn_reason (fun vs H Q E h => ?_) (fun cdv A outer s H vs Q E hr h => ?_)
  · obtain ⟨_, _, _, _, rfl, _⟩ := h
    rfl
  refine ⟨_, (pss_cons (ps_set (i := 2) sc_PutIn_reason.nd rfl (Or.inl rfl) (pe_cal C_node_at hr (by decide) rfl (pa_cons (pv 1) (pa_cons (pe_fld (pv 0) rfl) pa_nil)))) (pss_cons (ps_if (pt_cmpR op_isN (pv 2) pe_non (nomark _)) (pss_one (ps_ret pe_str)) pss_nil) (pss_cons (ps_if (pt_cmpR (r := rIn K false) op_in_seq (pe_ix (r := rIxT K) ix_tup (pe_fld (pv 0) rfl) pe_int (fun _ _ => rfl)) (pe_lc (own := [("kid", 3)]) (g := gName 3) (tt := tYes) rfl sc_PutIn_reason.nd (pi_tup (pe_ix (r := rIxT K) ix_tup (pv 2) pe_int (fun _ _ => rfl))) (blkOk_by (N := sc_PutIn_reasonN) (sc := defScope sc_PutIn_reasonS) (by decide +kernel)) (fun _ _ _ _ _ => pg_name (i := 3) sc_PutIn_reason.nd rfl (Or.inl rfl)) (fun _ _ _ _ _ => pts_nil) (fun _ _ _ _ _ => (pe_ix (r := rIxT K) ix_tup (pv 3) pe_int (fun _ _ => rfl)))) rfl) (pss_one (ps_ret pe_str)) pss_nil) (pss_cons (ps_if (pt_cmpR op_gt (pe_op op_add (pe_op op_add (pe_callB (r := Evl.rLenS K) call_len_seq (by rfl) B.len PySem.boot_len (pa_cons (pe_fld (pv 0) rfl) pa_nil)) pe_int) (pe_cal C_deep hr (by decide) rfl (pa_cons (pe_fld (pv 0) rfl) pa_nil))) (pe_glob (v := .int 9) rfl T.DEEPEST ⟨_, rfl⟩) (nomark _)) (pss_one (ps_ret pe_str)) pss_nil) (pss_one (ps_ret pe_non)))))), ?_⟩
  obtain ⟨t, d, v, u, rfl, hk, ⟨a, dx, pv, x, rfl, ha, hp, hx⟩, ht, hf, q⟩ := h
  cases d with
  | read p ws => cases hk
  | out p => cases hk
  | put p n =>
    have hx : TAt H n x := hx
    have hok : NdOk n := hf.2.2.2.2
    have lp : p.length ≤ 8 := hf.2.2.2.1.1
    rw [whyT_put] at q
    have hx0 := hx
    obtain ⟨b, w1, kk, us, rfl, g1, g2, g3, g4⟩ := hx.parts
    refine ⟨_, rfl, _, rfl, a, _, dx, _, _, rfl, ha, k.cl, k.np, look_p, t, p, _, _, rfl, ht, hp, fun z => ⟨_, rfl, rfl, _, rfl, iteT ?_⟩, fun nd y z hy => ?_⟩
    · rw [z] at q
      exact q _ (Same.refl _)
    · rw [z] at q
      have q : ∀ H', Same H H' → Q (whyV (if (kidOf nd.kids n.lab).isSome = true then Why.there else if p.length + 1 + n.deep > 9 then Why.deep else Why.fits)) H' := q
      have wdn := (wd_at hf.2.1 z).len
      obtain ⟨e, w2, k2, vs, rfl, h1, h2, h3, h4⟩ := hy.parts
      refine ⟨_, rfl, rfl, _, rfl, iteF ⟨_, rfl, a, _, dx, _, _, rfl, ha, k.cl, k.nn, rfl, _, _, _, _, rfl, rfl, SqT.of g1, atI_nat (j := 0) rfl, _, rfl, _, _, _, _, rfl, rfl, SqT.of h1, atI_nat (j := 2) rfl, _, rfl, ⟨_, SqT.of h3⟩, fun L hL => lc_tup (xs := vs) (fun i H' => Same H H' ∧ H' L = some (.lst ((nd.kids.take i).map fun k => V.str k.lab))) ⟨Same.new hL, upd_same⟩ (fun i H' _ p => SqT.of (p.1 _ _ h3)) ?_ ?_⟩⟩
      · rintro i x H' hi ⟨s1, hl⟩
        obtain ⟨kd, hk, ak⟩ := h4.get hi
        obtain ⟨b3, _, _, _, rfl, e1, _⟩ := ak.open
        refine ⟨rfl, _, rfl, _, _, _, _, rfl, rfl, SqT.of (s1 _ _ e1), atI_nat (j := 0) rfl, _, hl, small1000 (by rw [List.length_map]; exact Nat.le_trans (List.length_take_le' _ _) (by omega)), Same.put hL s1, ?_⟩
        rw [upd_same, take_succ hk, List.map_append]
        rfl
      · rintro H' ⟨s1, hl⟩
        rw [h4.len, List.take_length] at hl
        refine ⟨L, _, rfl, .inl (SqL.of hl), rfl, ?_, _, rfl, ?_⟩
        · rw [List.all_map]
          exact List.all_eq_true.mpr fun _ _ => rfl
        show (if inV (.str n.lab) (nd.kids.map fun k => V.str k.lab) = true then _ else _)
        rw [in_labs]
        cases hc : (kidOf nd.kids n.lab).isSome with
        | true =>
          rw [if_pos hc] at q
          exact iteT (q _ s1)
        | false =>
          rw [if_neg (by rw [hc]; decide)] at q
          have sp := hp
          obtain ⟨pa, rfl, hpa⟩ := hp
          refine iteF ⟨_, rfl, a, _, dx, _, _, rfl, s1 _ _ ha, k.cl, k.np, look_p, pa, _, rfl, .inr (SqT.of (s1 _ _ hpa)), _, _, rfl, rfl, _, rfl, a, _, dx, _, _, rfl, s1 _ _ ha, k.cl, k.nn, rfl, n, _, rfl, hx0.keep (.of s1), by have := hok.deep; omega, hok.wd.mono (by decide) n, fun H2 s2 => ?_⟩
          refine ⟨_, _, rfl, rfl, _, _, rfl, rfl, _, rfl, ?_⟩
          have e : decide ((9 : Int) < ((p.map V.str).length : Int) + 1 + (n.deep : Nat)) = decide (p.length + 1 + n.deep > 9) := by
            refine decide_eq_decide.mpr ?_
            rw [List.length_map]
            omega
          show (if decide ((9 : Int) < ((p.map V.str).length : Int) + 1 + (n.deep : Nat)) = true then _ else _)
          rw [e]
          refine ite2 (fun z => ?_) (fun z => ?_)
          · rw [if_pos (of_decide_eq_true z)] at q
            exact q _ (s1.trans s2)
          · rw [if_neg (fun y => z (decide_eq_true y))] at q
            exact q _ (s1.trans s2)
theorem ok_Read_made {f : Addr} {fd : FuncData} (D : DefM K "made" "Read.made" sc_Read_madeS f fd) (k : ClsF K c.R) (C_with_words : CallOk P w K mg base 11 "with_words" sc_with_wordsP spWds) : FnOk P w K mg base CX0 12 f fd sc_Read_madeP (spMade c 0) := by
  refine D.ok sc_Read_made (fun vs H Q E h => ?_) (fun cdv A outer s H vs Q E hr h => ?_)
  · obtain ⟨_, _, _, _, rfl, _⟩ := h
    rfl
  refine ⟨_, (pss_one (ps_ret (pe_cal C_with_words hr (by decide) rfl (pa_cons (pv 1) (pa_cons (pe_fld (pv 0) rfl) (pa_cons (pe_fld (pv 0) rfl) pa_nil)))))), ?_⟩
  obtain ⟨t, d, v, u, rfl, hk, ⟨a, dx, pv, x, rfl, ha, hp, hx⟩, ht, hf, hw, q⟩ := h
  cases d with
  | put p n => cases hk
  | out p => cases hk
  | read p ws =>
    obtain ⟨nd, hn⟩ := why_node hw
    have hn : nodeAt t p = some nd := hn
    refine ⟨_, rfl, _, rfl, a, _, dx, _, _, rfl, ha, k.cl, k.np, look_p, _, rfl, a, _, dx, _, _, rfl, ha, k.cl, k.nw, rfl, t, nd, p, ws, _, _, _, rfl, ht, hp, hx, ⟨hf.1, hf.2.1, hf.2.2.2.1.1, hn⟩, fun H' y s1 hy => q H' y s1 ?_⟩
    show TAt H' (chg (fRead ws) t p) y
    rw [← chg_const hf.1 hn]
    exact hy
theorem ok_PutIn_made {f : Addr} {fd : FuncData} (D : DefM K "made" "PutIn.made" sc_PutIn_madeS f fd) (k : ClsF K c.P) (C_with_kid : CallOk P w K mg base 11 "with_kid" sc_with_kidP spKidIn) : FnOk P w K mg base CX0 12 f fd sc_PutIn_madeP (spMade c 1) := by
  refine D.ok sc_PutIn_made (fun vs H Q E h => ?_) (fun cdv A outer s H vs Q E hr h => ?_)
  · obtain ⟨_, _, _, _, rfl, _⟩ := h
    rfl
  refine ⟨_, (pss_one (ps_ret (pe_cal C_with_kid hr (by decide) rfl (pa_cons (pv 1) (pa_cons (pe_fld (pv 0) rfl) (pa_cons (pe_fld (pv 0) rfl) pa_nil)))))), ?_⟩
  obtain ⟨t, d, v, u, rfl, hk, ⟨a, dx, pv, x, rfl, ha, hp, hx⟩, ht, hf, hw, q⟩ := h
  cases d with
  | read p ws => cases hk
  | out p => cases hk
  | put p n =>
    obtain ⟨nd, hn⟩ := why_node hw
    have hn : nodeAt t p = some nd := hn
    have hok : NdOk n := hf.2.2.2.2
    refine ⟨_, rfl, _, rfl, a, _, dx, _, _, rfl, ha, k.cl, k.np, look_p, _, rfl, a, _, dx, _, _, rfl, ha, k.cl, k.nn, rfl, t, nd, n, p, _, _, _, rfl, ht, hp, hx, ⟨hf.1, hf.2.1, hf.2.2.2.1.1, hn⟩, hok.lab, (why_put hn hw).1, fun H' y s1 hy => q H' y s1 ?_⟩
    show TAt H' (chg (fPut n) t p) y
    rw [← chg_const hf.1 hn]
    exact hy
theorem ok_LeaveOut_made {f : Addr} {fd : FuncData} (D : DefM K "made" "LeaveOut.made" sc_LeaveOut_madeS f fd) (k : ClsF K c.L) (C_without : CallOk P w K mg base 11 "without" sc_withoutP spWout) : FnOk P w K mg base CX0 12 f fd sc_LeaveOut_madeP (spMade c 2) := by
  refine D.ok sc_LeaveOut_made (fun vs H Q E h => ?_) (fun cdv A outer s H vs Q E hr h => ?_)
  · obtain ⟨_, _, _, _, rfl, _⟩ := h
    rfl
  refine ⟨_, (pss_one (ps_ret (pe_cal C_without hr (by decide) rfl (pa_cons (pv 1) (pa_cons (pe_fld (pv 0) rfl) pa_nil))))), ?_⟩
  obtain ⟨t, d, v, u, rfl, hk, ⟨a, dx, pv, x, rfl, ha, hp, hx⟩, ht, hf, hw, q⟩ := h
  cases d with
  | read p ws => cases hk
  | put p n => cases hk
  | out p =>
    obtain ⟨hne, up, hup, hpe⟩ := why_out hw
    obtain ⟨m, hm⟩ := why_node hw
    have hm : nodeAt t p = some m := hm
    refine ⟨_, rfl, _, rfl, a, _, dx, _, _, rfl, ha, k.cl, k.np, look_p, t, m, up, p, _, _, rfl, ht, hp, hne, hf.2.2.2.1, hf.1, hf.2.1, hm, hup, fun H' y s1 hy => q H' y s1 ?_⟩
    show TAt H' (chg (fOut (lastLab p)) t p.dropLast) y
    rw [← chg_const hf.1 hup]
    exact hy
end
end Cm
end

section
/-! done: the change made, or NoFit with the reason. -/
namespace Cm
open PySem PySem.Spec PyProof.Rows L2
/-- the refusal's class, at N -/
structure NfOk (P : Program) (w : World) (K : PySem.W.Frag) (mg : Str → Option Value) (base : Heap) (N : Addr) (ps : List Str) (sp : Sp) : Prop where
  ox : OexC K N
  g : mg "NoFit" = some (.ref N)
  ex : ∃ (f : Addr) (fd : FuncData), PySem.W.findIn K (.ref N) "__init__" = some (some (.ref f)) ∧ PySem.W.typeIn K (.ref f) = some (.type "function") ∧ FnOk P w K mg base CX0 1 f fd ps sp ∧ Binds K fd ps []
def spNf (C : Addr) : Sp := fun vs H Q _ => ∃ (a : Addr) (y : V), vs = [.ref a, y] ∧ H a = some (exo a C none) ∧ ∀ dx, H dx = none → dx ≠ a → Q .non (upd (upd H dx (exd dx [("why", y)])) a (exo a C (some dx)))
structure Chs (P : Program) (w : World) (K : PySem.W.Frag) (mg : Str → Option Value) (base : Heap) (c : Cs) : Prop where
  ok : CsOk K c
  rR : MethOk P w K mg base CX0 11 c.R "reason" ["self", "tree"] (spReason c 0)
  rP : MethOk P w K mg base CX0 11 c.P "reason" ["self", "tree"] (spReason c 1)
  rL : MethOk P w K mg base CX0 11 c.L "reason" ["self", "tree"] (spReason c 2)
  mR : MethOk P w K mg base CX0 12 c.R "made" ["self", "tree"] (spMade c 0)
  mP : MethOk P w K mg base CX0 12 c.P "made" ["self", "tree"] (spMade c 1)
  mL : MethOk P w K mg base CX0 12 c.L "made" ["self", "tree"] (spMade c 2)
/-- reason asked of a change of any class -/
def tReas (c : Cs) (ta : TE) (t : TA) : TE := fun σ H Q => tMeth c.R "reason" (spReason c 0) [] E0 ta t σ H Q ∨ (tMeth c.P "reason" (spReason c 1) [] E0 ta t σ H Q ∨ tMeth c.L "reason" (spReason c 2) [] E0 ta t σ H Q)
def tMadeC (c : Cs) (ta : TE) (t : TA) : TE := fun σ H Q => tMeth c.R "made" (spMade c 0) [] E0 ta t σ H Q ∨ (tMeth c.P "made" (spMade c 1) [] E0 ta t σ H Q ∨ tMeth c.L "made" (spMade c 2) [] E0 ta t σ H Q)
section
variable {X : Cx} {o e : Expr} {es : List Expr} {ta : TE} {t : TA} {apos pos p : Pos} {c : Cs} {k : Nat}
theorem pe_reas {pl : Sem Bool} (S : Chs X.prog X.w X.K X.mg X.base c) (he : PE X o ta) (hr : Room k X.A) (hj : 11 ≤ k) (ha : PA X (e :: es) t)
    (hst : starEach (e :: es) X.env = (false, eval e X.env) :: starEach es X.env := by rfl) (hpl : (backTo pos (starEach es X.env)).any (·.1) = false := by rfl)
    (ht : eval (.Call (.Attribute o "reason" apos) (e :: es) [] pos) X.env = (do
      let ov ← eval o X.env
      standAt apos.atName
      let (f, first) ← holding [ov] (getMethod ov "reason" pl)
      callWith pos f first (backTo pos (starEach (e :: es) X.env)) (backToKw pos (keywordEach [] X.env))) := by rfl) :
    PE X (.Call (.Attribute o "reason" apos) (e :: es) [] pos) (tReas c ta t) :=
  PE.or (pe_mth he S.ok.R.cl S.rR hr hj pass0 ha hst hpl ht) (PE.or (pe_mth he S.ok.P.cl S.rP hr hj pass0 ha hst hpl ht) (pe_mth he S.ok.L.cl S.rL hr hj pass0 ha hst hpl ht))
theorem pe_madeC {pl : Sem Bool} (S : Chs X.prog X.w X.K X.mg X.base c) (he : PE X o ta) (hr : Room k X.A) (hj : 12 ≤ k) (ha : PA X (e :: es) t)
    (hst : starEach (e :: es) X.env = (false, eval e X.env) :: starEach es X.env := by rfl) (hpl : (backTo pos (starEach es X.env)).any (·.1) = false := by rfl)
    (ht : eval (.Call (.Attribute o "made" apos) (e :: es) [] pos) X.env = (do
      let ov ← eval o X.env
      standAt apos.atName
      let (f, first) ← holding [ov] (getMethod ov "made" pl)
      callWith pos f first (backTo pos (starEach (e :: es) X.env)) (backToKw pos (keywordEach [] X.env))) := by rfl) :
    PE X (.Call (.Attribute o "made" apos) (e :: es) [] pos) (tMadeC c ta t) :=
  PE.or (pe_mth he S.ok.R.cl S.mR hr hj pass0 ha hst hpl ht) (PE.or (pe_mth he S.ok.P.cl S.mP hr hj pass0 ha hst hpl ht) (pe_mth he S.ok.L.cl S.mL hr hj pass0 ha hst hpl ht))
end
/-- the reading of v.reason(u), the slots i and j -/
theorem reas_of {c : Cs} {σ : L2.St} {H : Hp} {Q : VK} {i j : Nat} {t : T} {d : Dr} {v u : V} (hi : σ[i]? = some (some v)) (hj : σ[j]? = some (some u)) (hc : ChAt c H d v) (ht : TAt H t u) (hf : Fit t d) (q : ∀ H', Same H H' → Q (whyV (whyT t d)) H') : tReas c (tVar i) (tCons (tVar j) tNil) σ H Q := by
  have hc0 := hc
  obtain ⟨a, dx, pu, x, rfl, ha, hp, hx⟩ := hc
  have lm := (look_m (d := d) (u := pu) (x := x)).1
  cases d with
  | read p ws => exact .inl ⟨_, hi, a, dx, _, rfl, ha, lm, _, hj, t, _, _, _, rfl, rfl, hc0, ht, hf, q⟩
  | put p n => exact .inr (.inl ⟨_, hi, a, dx, _, rfl, ha, lm, _, hj, t, _, _, _, rfl, rfl, hc0, ht, hf, q⟩)
  | out p => exact .inr (.inr ⟨_, hi, a, dx, _, rfl, ha, lm, _, hj, t, _, _, _, rfl, rfl, hc0, ht, hf, q⟩)
theorem made_of {c : Cs} {σ : L2.St} {H : Hp} {Q : VK} {i j : Nat} {t : T} {d : Dr} {v u : V} (hi : σ[i]? = some (some v)) (hj : σ[j]? = some (some u)) (hc : ChAt c H d v) (ht : TAt H t u) (hf : Fit t d) (hw : whyT t d = .fits) (q : ∀ H' y, Same H H' → TAt H' (resT t d) y → Q y H') : tMadeC c (tVar i) (tCons (tVar j) tNil) σ H Q := by
  have hc0 := hc
  obtain ⟨a, dx, pu, x, rfl, ha, hp, hx⟩ := hc
  have lm := (look_m (d := d) (u := pu) (x := x)).2.1
  cases d with
  | read p ws => exact .inl ⟨_, hi, a, dx, _, rfl, ha, lm, _, hj, t, _, _, _, rfl, rfl, hc0, ht, hf, hw, q⟩
  | put p n => exact .inr (.inl ⟨_, hi, a, dx, _, rfl, ha, lm, _, hj, t, _, _, _, rfl, rfl, hc0, ht, hf, hw, q⟩)
  | out p => exact .inr (.inr ⟨_, hi, a, dx, _, rfl, ha, lm, _, hj, t, _, _, _, rfl, rfl, hc0, ht, hf, hw, q⟩)
def spDone (c : Cs) (N : Addr) : Sp := fun vs H Q E => ∃ (t : T) (d : Dr) (v u : V), vs = [v, u] ∧ ChAt c H d v ∧ TAt H t u ∧ Fit t d ∧ (whyT t d = .fits → ∀ H' y, Same H H' → TAt H' (resT t d) y → Q y H') ∧
  (whyT t d ≠ .fits → ∀ dd H', Same H H' → H' dd = some (.xd [("why", whyV (whyT t d))]) → E (.ref N) (some dd) H')
theorem whyV_none {y : Why} : decide (whyV y = .non) = decide (y = .fits) := by cases y <;> rfl
abbrev sc_NoFit_initS : Stmt := (inClass (top 4) 0)
abbrev sc_NoFit_initN : List Str := ["self", "why"]
abbrev sc_NoFit_initP : List Str := ["self", "why"]
theorem sc_NoFit_init : FnScope sc_NoFit_initN sc_NoFit_initP (defScope sc_NoFit_initS) := ⟨rfl, rfl, rfl, by decide +kernel, rfl, by decide +kernel, by decide +kernel⟩
abbrev sc_Change_doneS : Stmt := (inClass (top 26) 2)
abbrev sc_Change_doneN : List Str := ["self", "tree", "why"]
abbrev sc_Change_doneP : List Str := ["self", "tree"]
theorem sc_Change_done : FnScope sc_Change_doneN sc_Change_doneP (defScope sc_Change_doneS) := ⟨rfl, rfl, rfl, by decide +kernel, rfl, by decide +kernel, by decide +kernel⟩
section
variable {P : Program} {w : World} {K : PySem.W.Frag} {mg : Str → Option Value} {base : Heap} {c : Cs} {N : Addr}
theorem ok_NoFit_init {f : Addr} {fd : FuncData} (D : DefM K "__init__" "NoFit.__init__" sc_NoFit_initS f fd) (O : OexC K N) (hno : PySem.W.findIn K (.ref N) "why" = some none) : FnOk P w K mg base CX0 1 f fd sc_NoFit_initP (spNf N) := by
  refine D.ok sc_NoFit_init (fun vs H Q E h => ?_) (fun cdv A outer s H vs Q E hr h => ?_)
  · obtain ⟨_, _, rfl, _⟩ := h
    rfl
  refine ⟨_, pss_one (ps_ost (pv 0) (pv 1)), ?_⟩
  obtain ⟨a, y, rfl, ha, q⟩ := h
  exact ⟨_, rfl, _, rfl, a, N, rfl, O, hno, .inl ⟨ha, q⟩⟩
theorem ok_done {f : Addr} {fd : FuncData} (D : DefM K "done" "Change.done" sc_Change_doneS f fd) (S : Chs P w K mg base c) (NO : NfOk P w K mg base N sc_NoFit_initP (spNf N)) : FnOk P w K mg base (L2.CX P w) 13 f fd sc_Change_doneP (spDone c N) := by
  refine D.F.okX sc_Change_done (fun vs H Q E h => ?_) (fun cdv A outer s H vs Q E hr h => ?_)
  · obtain ⟨_, _, _, _, rfl, _⟩ := h
    rfl
  obtain ⟨fI, fdI, iC, tI, F1, bI⟩ := NO.ex
  refine ⟨_, (pss_cons (ps_set (i := 2) sc_Change_done.nd rfl (Or.inl rfl) (pe_reas S (pv 0) hr (by decide) (pa_cons (pv 1) pa_nil))) (pss_cons (ps_if (pt_cmpR op_notN (pv 2) pe_non (nomark _)) (pss_one (ps_raise rfl (takes_of rfl rfl rfl rfl) (pmk_oex NO.ox iC tI F1 (hr.mono (by decide)) bI .nil pass0 rfl NO.g (pa_cons (pv 2) pa_nil)))) pss_nil) (pss_one (ps_ret (pe_madeC S (pv 0) hr (by decide) (pa_cons (pv 1) pa_nil)))))), ?_⟩
  obtain ⟨t, d, v, u, rfl, hc, ht, hf, q1, q2⟩ := h
  refine reas_of rfl rfl hc ht hf fun H1 s1 => ⟨_, rfl, rfl, _, rfl, ?_⟩
  rw [whyV_none]
  by_cases z : whyT t d = .fits
  · rw [decide_eq_true z]
    exact iteF (made_of rfl rfl (hc.same s1) (ht.keep (.of s1)) hf z fun H2 y s2 hy => q1 z _ _ (s1.trans s2) hy)
  · rw [decide_eq_false z]
    refine iteT ⟨_, rfl, (by show 1 ≤ 1000; decide), fun a ha => ⟨a, _, rfl, upd_same, fun dx hdx hne => ⟨rfl, dx, [("why", whyV (whyT t d))], upd_same, ?_, ?_, ?_⟩⟩⟩
    · rw [upd_ne hne, upd_same]
    · rw [← hdx, upd_ne hne]
    · have hdx1 : H1 dx = none := by rw [← hdx, upd_ne hne]
      refine q2 z dx _ (fun b o e => ?_) upd_same
      have e1 := s1 b o e
      have n1 : b ≠ dx := ne_of_none e1 hdx1
      have n2 : b ≠ a := ne_of_none e1 ha
      rw [upd_ne n1, del_ne n2, upd_ne n2, upd_ne n1, upd_ne n2]
      exact e1
end
end Cm
end

section
/-! The law's labels, words, rows of words: what is asked of them is their form alone. -/
namespace Cm
open PySem PySem.Spec PyProof.Rows L2
theorem atI_mod {α : Type} (xs : List α) (n m : Int) (hm : m = (xs.length : Nat)) (h0 : 0 < m) : ∃ x ∈ xs, atI xs (n % m) = some x := by
  have h1 := Int.emod_nonneg n (by omega : m ≠ 0)
  have h2 := Int.emod_lt_of_pos n h0
  obtain ⟨j, e⟩ := Int.eq_ofNat_of_zero_le h1
  have h3 : j < xs.length := by omega
  refine ⟨xs[j], List.getElem_mem h3, ?_⟩
  rw [e]
  exact atI_nat (List.getElem?_eq_getElem h3)
theorem cps_app (a b : Str) : (a ++ b).cps.toList = a.cps.toList ++ b.cps.toList := by
  show (a.cps ++ b.cps).toList = _
  exact Array.toList_append
theorem ok_app {a b : Str} (ha : PyData.strOk a = true) (hb : PyData.strOk b = true) : PyData.strOk (a ++ b) = true := by
  unfold PyData.strOk at *
  rw [← Array.all_toList] at *
  rw [cps_app, List.all_append, ha, hb]
  rfl
theorem ok_one {c : Nat} (h : c < 0x110000) : PyData.strOk ⟨#[c]⟩ = true := by
  unfold PyData.strOk
  rw [← Array.all_toList]
  simp [h]
theorem len_app (a b : Str) : (a ++ b).length = a.length + b.length := by
  have := congrArg List.length (cps_app a b)
  rw [List.length_append, Array.length_toList, Array.length_toList, Array.length_toList] at this
  exact this
theorem isLab_mk {m : Int} {u : Str} (h1 : 1 ≤ m) (h2 : m ≤ 999999999) (hu : u.cps.toList ∈ sufs) : IsLab (Str.ofString (toString m) ++ u) := by
  obtain ⟨n, rfl⟩ := Int.eq_ofNat_of_zero_le (by omega : 0 ≤ m)
  exact ⟨n, _, by omega, by omega, hu, by rw [cps_app]; congr 1; exact TL.tl_num n⟩
theorem log_ok {m : Int} (h1 : 1 ≤ m) (h2 : m ≤ 999999999) : m.natAbs.log2 < 1920 := by
  refine (Nat.log2_lt (by omega)).mpr (Nat.lt_of_lt_of_le (m := 2 ^ 30) (by omega) (Nat.pow_le_pow_right (by decide) (by decide)))
def spLab : Sp := fun vs H Q _ => ∃ n : Int, vs = [.int n] ∧ ∀ H' l, Same H H' → IsLab l → Q (.str l) H'
def spWord : Sp := fun vs H Q _ => ∃ n : Int, vs = [.int n] ∧ ∀ H' s, Same H H' → PyData.strOk s = true → Q (.str s) H'
def spWords : Sp := fun vs H Q _ => ∃ n : Int, vs = [.int n] ∧ ∀ H' x ws, Same H H' → SAt H' x ws → WsOk ws → Q x H'
def labSufs : List Str := ["", "a", "", "b", "aa", "", "az", "zzz"]
theorem labSufs_ok : ∀ u ∈ labSufs, u.cps.toList ∈ sufs ∧ u.length ≤ 3 := by decide +kernel
theorem alpha4 : ∀ c ∈ ("ab1z" : Str).cps.toList, c < 0x110000 := by decide +kernel
theorem alpha36 : ∀ c ∈ ("abcdefghijklmnopqrstuvwxyz0123456789" : Str).cps.toList, c < 0x110000 := by decide +kernel
abbrev sc_law_labelS : Stmt := (top 32)
abbrev sc_law_labelN : List Str := ["_law_cell", "_law_number"]
abbrev sc_law_labelP : List Str := ["_law_cell"]
theorem sc_law_label : FnScope sc_law_labelN sc_law_labelP (defScope sc_law_labelS) := ⟨rfl, rfl, rfl, by decide +kernel, rfl, by decide +kernel, by decide +kernel⟩
abbrev sc_law_wordS : Stmt := (top 33)
abbrev sc_law_wordN : List Str := ["_law_cell", "_law_word_here", "_law_k", "_law_at"]
abbrev sc_law_wordP : List Str := ["_law_cell"]
theorem sc_law_word : FnScope sc_law_wordN sc_law_wordP (defScope sc_law_wordS) := ⟨rfl, rfl, rfl, by decide +kernel, rfl, by decide +kernel, by decide +kernel⟩
abbrev sc_law_wordsS : Stmt := (top 34)
abbrev sc_law_wordsN : List Str := ["_law_cell", "_law_k"]
abbrev sc_law_wordsP : List Str := ["_law_cell"]
theorem sc_law_words : FnScope sc_law_wordsN sc_law_wordsP (defScope sc_law_wordsS) := ⟨rfl, rfl, rfl, by decide +kernel, rfl, by decide +kernel, by decide +kernel⟩
section
variable {P : Program} {w : World} {K : PySem.W.Frag} {mg : Str → Option Value} {base : Heap}
theorem ok_law_label {f : Addr} {fd : FuncData} (D : DefAt K mg "_law_label" sc_law_labelS f fd) (B : Bt mg) : CallOk P w K mg base 1 "_law_label" sc_law_labelP spLab := by
  refine D.call sc_law_label (fun vs H Q E h => ?_) (fun _ _ _ _ _ _ us hl => match us, hl with | [_], _ => rfl) (fun cdv A outer s H vs Q E hr h => ?_)
  · obtain ⟨_, rfl, _⟩ := h
    rfl
  refine ⟨_, (pss_cons (ps_set (i := 1) sc_law_label.nd rfl (Or.inl rfl) (pe_ix (r := rIxL K) ix_list (pe_lst (pa_cons pe_int (pa_cons pe_int (pa_cons pe_int (pa_cons pe_int (pa_cons (pe_op op_add pe_int (pe_op op_mod (pe_op op_mul (pe_op op_fdiv (pv 0) pe_int) pe_int) pe_int)) pa_nil)))))) (pe_op op_mod (pv 0) pe_int) (fun _ _ => rfl))) (pss_one (ps_ret (pe_op op_add_str (pe_callTy call_str_int (by rfl) B.str (by decide +kernel) (pa_cons (pv 1) pa_nil)) (pe_ix (r := rIxL K) ix_list (pe_lst (pa_cons pe_str (pa_cons pe_str (pa_cons pe_str (pa_cons pe_str (pa_cons pe_str (pa_cons pe_str (pa_cons pe_str (pa_cons pe_str pa_nil))))))))) (pe_op op_mod (pe_op op_fdiv (pv 0) pe_int) pe_int) (fun _ _ => rfl)))))), ?_⟩
  obtain ⟨n, rfl, q⟩ := h
  refine ⟨_, rfl, _, _, rfl, rfl, ⟨by decide, by decide⟩, _, _, rfl, rfl, .inr ⟨by decide, by decide⟩, _, _, rfl, rfl, (by show (0 : Int) < 999999999; decide), _, _, rfl, rfl, (by show 5 ≤ sizeLine; decide), fun L hL => ?_⟩
  have hb0 := Int.emod_nonneg (n / 40 * 48271) (by decide : (999999999 : Int) ≠ 0)
  have hb1 := Int.emod_lt_of_pos (n / 40 * 48271) (by decide : (0 : Int) < 999999999)
  obtain ⟨x, hx, ex⟩ := atI_mod [V.int 1, .int 2, .int 3, .int 10, .int (1 + n / 40 * 48271 % 999999999)] n 5 rfl (by decide)
  have hm : ∃ m : Int, x = .int m ∧ 1 ≤ m ∧ m ≤ 999999999 := by
    simp only [List.mem_cons, List.not_mem_nil, or_false] at hx
    rcases hx with rfl | rfl | rfl | rfl | rfl
    · exact ⟨_, rfl, by decide, by decide⟩
    · exact ⟨_, rfl, by decide, by decide⟩
    · exact ⟨_, rfl, by decide, by decide⟩
    · exact ⟨_, rfl, by decide, by decide⟩
    · exact ⟨_, rfl, by omega, by omega⟩
  obtain ⟨m, rfl, m1, m2⟩ := hm
  refine ⟨_, rfl, _, _, rfl, rfl, (by show (0 : Int) < 5; decide), L, _, _, _, rfl, rfl, SqL.of upd_same, ex, ?_⟩
  refine ⟨_, rfl, _, rfl, log_ok m1 m2, (by show 8 ≤ sizeLine; decide), fun M hM => ?_⟩
  obtain ⟨y, hy, ey⟩ := atI_mod (labSufs.map V.str) (n / 5) 8 rfl (by decide)
  obtain ⟨u, hu, rfl⟩ := List.mem_map.mp hy
  have hs := labSufs_ok u hu
  refine ⟨_, rfl, _, _, rfl, rfl, ⟨by decide, by decide⟩, _, _, rfl, rfl, (by show (0 : Int) < 8; decide), M, _, _, _, rfl, rfl, SqL.of upd_same, ey, ?_⟩
  have hl := isLab_mk m1 m2 hs.1
  refine ⟨_, _, rfl, rfl, lenOk ?_, q _ _ ((Same.new hL).trans (Same.new hM)) hl⟩
  have := isLab_len hl
  rw [len_app] at this
  omega
theorem ok_law_word {f : Addr} {fd : FuncData} (D : DefAt K mg "_law_word" sc_law_wordS f fd) (B : Bt mg) : CallOk P w K mg base 1 "_law_word" sc_law_wordP spWord := by
  refine D.call sc_law_word (fun vs H Q E h => ?_) (fun _ _ _ _ _ _ us hl => match us, hl with | [_], _ => rfl) (fun cdv A outer s H vs Q E hr h => ?_)
  · obtain ⟨_, rfl, _⟩ := h
    rfl
  refine ⟨_, (pss_cons (ps_set (i := 1) sc_law_word.nd rfl (Or.inl rfl) (pe_ix ix_str pe_str (pe_op op_mod (pv 0) pe_int) (fun _ _ => rfl))) (pss_cons (ps_for PassesOwn.never rfl (pi_range1 rfl B.range (pa_cons (pe_ix (r := rIxL K) ix_list (pe_lst (pa_cons pe_int (pa_cons pe_int (pa_cons pe_int (pa_cons pe_int pa_nil))))) (pe_op op_mod (pe_op op_fdiv (pv 0) pe_int) pe_int) (fun _ _ => rfl)) pa_nil)) (pg_name (i := 2) sc_law_word.nd rfl (Or.inl rfl)) (pss_cons (ps_set (i := 3) sc_law_word.nd rfl (Or.inl rfl) (pe_op op_add (pe_op op_fdiv (pv 0) pe_int) (pe_op op_mul (pv 2) (pe_op op_add pe_int (pe_op op_mod (pe_op op_fdiv (pv 0) pe_int) pe_int))))) (pss_one (ps_set (i := 1) sc_law_word.nd rfl (Or.inl rfl) (pe_op op_add_str (pv 1) (pe_ix ix_str pe_str (pe_op op_mod (pv 3) pe_int) (fun _ _ => rfl))))))) (pss_one (ps_ret (pv 1))))), ?_⟩
  obtain ⟨n, rfl, q⟩ := h
  obtain ⟨c0, hc0, ec0⟩ := atI_mod ("ab1z" : Str).cps.toList n 4 (by decide +kernel) (by decide)
  refine ⟨_, rfl, _, _, rfl, rfl, (by show (0 : Int) < 4; decide), _, _, c0, rfl, rfl, (by decide +kernel), ec0, ?_⟩
  refine ⟨(by show 4 ≤ sizeLine; decide), fun L hL => ?_⟩
  obtain ⟨x, hx, ex⟩ := atI_mod [V.int 0, .int 0, .int 1, .int 11] (n / 4) 4 rfl (by decide)
  have hm : ∃ m : Int, x = .int m ∧ 0 ≤ m ∧ m ≤ 11 := by
    simp only [List.mem_cons, List.not_mem_nil, or_false] at hx
    rcases hx with rfl | rfl | rfl | rfl
    · exact ⟨_, rfl, by decide, by decide⟩
    · exact ⟨_, rfl, by decide, by decide⟩
    · exact ⟨_, rfl, by decide, by decide⟩
    · exact ⟨_, rfl, by decide, by decide⟩
  obtain ⟨m, rfl, m1, m2⟩ := hm
  refine ⟨_, rfl, _, _, rfl, rfl, ⟨by decide, by decide⟩, _, _, rfl, rfl, (by show (0 : Int) < 4; decide), L, _, _, _, rfl, rfl, SqL.of upd_same, ex, ?_⟩
  refine ⟨m, rfl, by omega, by omega, for_range (lo := 0) (n := m.toNat) (fun i σ H' => Same H H' ∧ ∃ s o1 o2, σ = [some (.int n), some (.str s), o1, o2] ∧ PyData.strOk s = true ∧ s.length ≤ 1 + i) ⟨Same.new hL, _, _, _, rfl, ok_one (alpha4 c0 hc0), Nat.le_refl _⟩ ?_ ?_⟩
  · rintro i σ H' hi ⟨s1, s, o1, o2, rfl, hs, hl⟩
    have hi2 : i ≤ 11 := by omega
    refine ⟨_, rfl, _, _, rfl, rfl, ⟨by decide, by decide⟩, _, rfl, _, rfl, _, _, rfl, rfl, ⟨by decide, by decide⟩, _, _, rfl, rfl, (by show (0 : Int) < 7; decide), _, _, rfl, rfl, _, _, rfl, rfl, .inl ⟨by omega, by omega⟩, _, _, rfl, rfl, ?_⟩
    obtain ⟨c, hc, ec⟩ := atI_mod ("abcdefghijklmnopqrstuvwxyz0123456789" : Str).cps.toList (n / 16 + (0 + (i : Int)) * (1 + n / 5 % 7)) 36 (by decide +kernel) (by decide)
    refine ⟨_, rfl, _, rfl, _, _, rfl, rfl, (by show (0 : Int) < 36; decide), _, _, c, rfl, rfl, (by decide +kernel), ec, _, _, rfl, rfl, lenOk (by show s.length + 1 ≤ 1000; omega), s1, _, _, _, rfl, ok_app hs (ok_one (alpha36 c hc)), ?_⟩
    rw [len_app]
    show s.length + 1 ≤ _
    omega
  · rintro σ H' ⟨s1, s, o1, o2, rfl, hs, hl⟩
    exact ⟨_, rfl, q _ _ s1 hs⟩
theorem ok_law_words {f : Addr} {fd : FuncData} (D : DefAt K mg "_law_words" sc_law_wordsS f fd) (B : Bt mg) (C_law_word : CallOk P w K mg base 1 "_law_word" sc_law_wordP spWord) : CallOk P w K mg base 2 "_law_words" sc_law_wordsP spWords := by
  refine D.call sc_law_words (fun vs H Q E h => ?_) (fun _ _ _ _ _ _ us hl => match us, hl with | [_], _ => rfl) (fun cdv A outer s H vs Q E hr h => ?_)
  · obtain ⟨_, rfl, _⟩ := h
    rfl
  refine ⟨_, (pss_one (ps_ret (pe_callTy call_tuple_of (by rfl) B.tuple (by decide +kernel) (pa_cons (pe_lc (own := [("_law_k", 1)]) (g := gName 1) (tt := tYes) rfl sc_law_words.nd (pi_range1 rfl B.range (pa_cons (pe_op op_mod (pv 0) pe_int) pa_nil)) (blkOk_by (N := sc_law_wordsN) (sc := defScope sc_law_wordsS) (by decide +kernel)) (fun _ _ _ _ _ => pg_name (i := 1) sc_law_words.nd rfl (Or.inl rfl)) (fun _ _ _ _ _ => pts_nil) (fun _ _ _ _ _ => (pe_cal C_law_word hr (by decide) rfl (pa_cons (pe_op op_add (pe_op op_fdiv (pv 0) pe_int) (pe_op op_mul (pv 1) (pe_op op_add pe_int (pe_op op_mod (pe_op op_fdiv (pv 0) pe_int) pe_int)))) pa_nil)))) pa_nil)))), ?_⟩
  obtain ⟨n, rfl, q⟩ := h
  have h1 := Int.emod_nonneg n (by decide : (5 : Int) ≠ 0)
  have h2 := Int.emod_lt_of_pos n (by decide : (0 : Int) < 5)
  refine ⟨_, rfl, _, _, rfl, rfl, (by show (0 : Int) < 5; decide), _, rfl, by omega, by omega, fun L hL => lc_range (lo := 0) (n := (n % 5).toNat) (fun i H' => Same H H' ∧ ∃ ws : List Str, H' L = some (.lst (ws.map V.str)) ∧ WsOk ws ∧ ws.length = i) ⟨Same.new hL, [], upd_same, fun w h => (by cases h), rfl⟩ ?_ ?_⟩
  · rintro i H' hi ⟨s1, ws, hl, hw, hn⟩
    refine ⟨rfl, ⟨_, rfl, _, _, rfl, rfl, ⟨by decide, by decide⟩, _, rfl, _, rfl, _, _, rfl, rfl, ⟨by decide, by decide⟩, _, _, rfl, rfl, (by show (0 : Int) < 3; decide), _, _, rfl, rfl, _, _, rfl, rfl, .inl ⟨by omega, by omega⟩, _, _, rfl, rfl, _, rfl, fun H2 z s2 hz => ?_⟩⟩
    refine ⟨_, s2 _ _ hl, small1000 (by rw [List.length_map]; omega), Same.put hL (s1.trans s2), ws ++ [z], ?_, fun x hx => ?_, by rw [List.length_append, hn]; rfl⟩
    · rw [upd_same, List.map_append]
      rfl
    · rcases List.mem_append.mp hx with hx | hx
      · exact hw x hx
      · rw [List.mem_singleton.mp hx]
        exact hz
  · rintro H' ⟨s1, ws, hl, hw, hn⟩
    exact ⟨L, _, rfl, .inl ⟨SqL.of hl, fun p hp => q _ _ ws (s1.trans (Same.new hp)) ⟨p, rfl, upd_same⟩ hw⟩⟩
end
end Cm
end

section
/-! The law's table of nodes as a dict whose keys are tuples. -/
namespace Cm
open PySem PySem.Spec PyProof.Rows L2
abbrev kk (p : Pl) : List Key := p.map Sum.inr
theorem kk_v (p : Pl) : (kk p).map kV = p.map V.str := by
  rw [List.map_map]
  rfl
theorem kk_inj {p q : Pl} : kk p = kk q ↔ p = q := List.map_inj_right fun x y z => Sum.inr.inj z
def KvR (H : Hp) (kv : List Key × V) (e : Pl × List Str) : Prop := kv.1 = kk e.1 ∧ SAt H kv.2 e.2
abbrev KvOk (H : Hp) (kvs : List (List Key × V)) (N : Nd) : Prop := Paired (KvR H) kvs N
def DAt (H : Hp) (d : Addr) (N : Nd) : Prop := ∃ kvs, H d = some (.dT kvs) ∧ KvOk H kvs N
theorem KvOk.keep {H H' : Hp} (k : TupK H H') {kvs : List (List Key × V)} {N : Nd} (h : KvOk H kvs N) : KvOk H' kvs N := Paired.mono (fun kv e (r : KvR H kv e) => ⟨r.1, r.2.keep k⟩) h
theorem DAt.same {H H' : Hp} {d : Addr} {N : Nd} (s : Same H H') (h : DAt H d N) : DAt H' d N := by
  obtain ⟨kvs, h1, h2⟩ := h
  exact ⟨kvs, s _ _ h1, h2.keep (.of s)⟩
theorem pair_app {α β : Type} {F : α → β → Prop} {l' : List α} {m' : List β} (h' : Paired F l' m') : ∀ {l : List α} {m : List β}, Paired F l m → Paired F (l ++ l') (m ++ m')
  | _, _, .nil => h'
  | _, _, .cons r t => .cons r (pair_app h' t)
theorem pair_get {α β : Type} {F : α → β → Prop} : ∀ {l : List α} {m : List β} {i : Nat} {a : α}, Paired F l m → l[i]? = some a → ∃ b, m[i]? = some b ∧ F a b
  | _, _, i, a, .nil, e => by simp at e
  | _, _, 0, a, .cons r t, e => by
    rw [List.getElem?_cons_zero] at e
    cases e
    exact ⟨_, rfl, r⟩
  | _, _, i + 1, a, .cons r t, e => by
    rw [List.getElem?_cons_succ] at e
    obtain ⟨b, h1, h2⟩ := pair_get t e
    exact ⟨b, by rw [List.getElem?_cons_succ]; exact h1, h2⟩
theorem kv_get {H : Hp} {p : Pl} : ∀ {kvs : List (List Key × V)} {N : Nd}, KvOk H kvs N → (lk N p = none → valV kvs (kk p) = none) ∧ ∀ ws, lk N p = some ws → ∃ v, valV kvs (kk p) = some v ∧ SAt H v ws
  | _, _, .nil => ⟨fun _ => rfl, fun ws h => by cases h⟩
  | _, _, .cons (a := kv) (b := e) (l₁ := kvs) (l₂ := N) r t => by
    have ih := kv_get (p := p) t
    by_cases c : e.1 = p
    · have c2 : kv.1 = kk p := by rw [r.1, c]
      rw [lk_cons, if_pos c, valV_pos c2]
      exact ⟨fun z => (by cases z), fun ws z => ⟨_, rfl, by cases z; exact r.2⟩⟩
    · have c2 : ¬ kv.1 = kk p := by rw [r.1, kk_inj]; exact c
      rw [lk_cons, if_neg c, valV_neg c2]
      exact ih
theorem kv_some {H : Hp} {p : Pl} {kvs : List (List Key × V)} {N : Nd} (h : KvOk H kvs N) : (valV kvs (kk p)).isSome = (lk N p).isSome := by
  obtain ⟨h1, h2⟩ := kv_get (p := p) h
  cases e : lk N p with
  | none => rw [h1 e]; rfl
  | some ws =>
    obtain ⟨v, hv, _⟩ := h2 ws e
    rw [hv]
    rfl
theorem kv_any {H : Hp} {p : Pl} {kvs : List (List Key × V)} {N : Nd} (h : KvOk H kvs N) : (kvs.any fun kv => decide (kv.1 = kk p)) = N.any fun e => decide (e.1 = p) := by
  induction h with
  | nil => rfl
  | cons r t ih =>
    rw [List.any_cons, List.any_cons, ih]
    congr 1
    exact decide_eq_decide.mpr (by rw [r.1, kk_inj])
theorem kv_put {H : Hp} {p : Pl} {v : V} {ws : List Str} {kvs : List (List Key × V)} {N : Nd} (h : KvOk H kvs N) (hv : SAt H v ws) : KvOk H (putK kvs (kk p) v) (put N p ws) := by
  have hmap : KvOk H (kvs.map fun kv => if kv.1 = kk p then (kv.1, v) else kv) (N.map fun e => if e.1 = p then (e.1, ws) else e) := by
    induction h with
    | nil => exact .nil
    | cons r t ih =>
      rename_i a b as bs
      refine .cons ?_ (ih)
      show KvR H (if a.1 = kk p then (a.1, v) else a) (if b.1 = p then (b.1, ws) else b)
      by_cases c : b.1 = p
      · have c2 : a.1 = kk p := by rw [r.1, c]
        rw [if_pos c, if_pos c2]
        exact ⟨r.1, hv⟩
      · have c2 : ¬ a.1 = kk p := by rw [r.1, kk_inj]; exact c
        rw [if_neg c, if_neg c2]
        exact r
  unfold putK put
  rw [kv_any h]
  by_cases c : (N.any fun e => decide (e.1 = p)) = true
  · rw [if_pos c, if_pos c]
    exact hmap
  · rw [if_neg c, if_neg c]
    exact pair_app (.cons ⟨rfl, hv⟩ .nil) h
theorem kv_len {H : Hp} {kvs : List (List Key × V)} {N : Nd} (h : KvOk H kvs N) : kvs.length = N.length := h.length
theorem kv_at {H : Hp} {kvs : List (List Key × V)} {N : Nd} {i : Nat} {k : List Key} {v : V} (h : KvOk H kvs N) (e : kvs[i]? = some (k, v)) : ∃ (p : Pl) (ws : List Str), N[i]? = some (p, ws) ∧ k = kk p ∧ SAt H v ws := by
  obtain ⟨⟨p, ws⟩, h1, h2⟩ := pair_get h e
  exact ⟨p, ws, h1, h2.1, h2.2⟩
/-- d[p], read -/
theorem dget_of {H : Hp} {d b : Addr} {p : Pl} {N : Nd} (h : DAt H d N) (hb : H b = some (.tup (p.map V.str))) : (∀ ws, lk N p = some ws → ∃ v, DGet H d (.ref b) (some v) ∧ SAt H v ws) ∧ ∃ o, DGet H d (.ref b) o ∧ o.isSome = (lk N p).isSome := by
  obtain ⟨kvs, h1, h2⟩ := h
  have hb' : H b = some (.tup ((kk p).map kV)) := by rw [kk_v]; exact hb
  refine ⟨fun ws e => ?_, _, DGet.t h1 hb', kv_some h2⟩
  obtain ⟨v, hv, hs⟩ := (kv_get h2).2 ws e
  exact ⟨v, by rw [← hv]; exact DGet.t h1 hb', hs⟩
/-- the same of a dict that a loop walks -/
theorem dget_frz {H : Hp} {d b : Addr} {od : Obj} {p : Pl} {ws : List Str} {N : Nd} {kvs : List (List Key × V)} (h1 : H d = some (.frz od (.dT kvs))) (h2 : KvOk H kvs N) (hb : H b = some (.tup (p.map V.str))) (e : lk N p = some ws) : ∃ v, DGet H d (.ref b) (some v) ∧ SAt H v ws := by
  have hb' : H b = some (.tup ((kk p).map kV)) := by rw [kk_v]; exact hb
  obtain ⟨v, hv, hs⟩ := (kv_get h2).2 ws e
  exact ⟨v, .inr ⟨kvs, kk p, b, .inr ⟨od, h1⟩, rfl, hb', hv.symm⟩, hs⟩
/-- d[p] = v -/
theorem dput_of {H : Hp} {d b : Addr} {p : Pl} {v : V} {ws : List Str} {N : Nd} (h : DAt H d N) (hb : H b = some (.tup (p.map V.str))) (hv : SAt H v ws) (hl : N.length < sizeLine) : ∃ H', DPut H d (.ref b) v H' ∧ DAt H' d (put N p ws) ∧ ∃ o, H' = upd H d o := by
  obtain ⟨kvs, h1, h2⟩ := h
  have hb' : H b = some (.tup ((kk p).map kV)) := by rw [kk_v]; exact hb
  refine ⟨_, DPut.t (v := v) h1 hb' (by rw [kv_len h2]; exact hl), ⟨_, upd_same, (kv_put h2 hv).keep (.put h1 fun _ z => by cases z)⟩, _, rfl⟩
/-- all but what stands at d is as it was -/
def But (d : Addr) (H H' : Hp) : Prop := ∀ b o, b ≠ d → H b = some o → H' b = some o
theorem But.refl (d : Addr) (H : Hp) : But d H H := fun _ _ _ h => h
theorem But.trans {d : Addr} {H H1 H2 : Hp} (a : But d H H1) (b : But d H1 H2) : But d H H2 := fun c o n h => b c o n (a c o n h)
theorem But.of {d : Addr} {H H' : Hp} (s : Same H H') : But d H H' := fun b o _ h => s b o h
theorem But.upd {d : Addr} {H : Hp} {o : HO} : But d H (upd H d o) := fun b o n h => by rw [upd_ne n]; exact h
theorem But.tup {d : Addr} {H H' : Hp} {u : HO} (k : But d H H') (h : H d = some u) (hu : ∀ xs, u ≠ .tup xs) : TupK H H' := fun b xs e => k b _ (fun z => by rw [z, h] at e; exact hu xs (Option.some.inj e)) e
theorem But.same {d : Addr} {H H' : Hp} (k : But d H H') (h : H d = none) : Same H H' := fun b o e => k b o (ne_of_none e h) e
end Cm
end

section
/-! The law's first table: _law_nodes. -/
namespace Cm
open PySem PySem.Spec PyProof.Rows L2
def spNodes (K : PySem.W.Frag) : Sp := fun vs H Q _ => ∃ (a : Addr) (ns : List Int), vs = [.ref a] ∧ SqL K H a (ns.map V.int) ∧ ns.length ≤ 20 ∧ ∀ H' d N, Same H H' → H d = none → DAt H' d N → WfN N → N.length ≤ ns.length + 1 → Q (.ref d) H'
/-- a place that may be put beneath the table's -/
def Next (N : Nd) (pl : Pl) : Prop := pl ∈ keys N ∨ ∃ p a, p ∈ keys N ∧ pl = p ++ [a] ∧ IsLab a ∧ pl.length ≤ 8
theorem keys_put (N : Nd) (p : Pl) (w : List Str) : keys (put N p w) = if p ∈ keys N then keys N else keys N ++ [p] := put_keys
theorem mem_put {N : Nd} {p : Pl} {w : List Str} {e : Pl × List Str} (h : e ∈ put N p w) : e ∈ N ∨ e.2 = w := by
  unfold put at h
  split at h
  · obtain ⟨x, hx, rfl⟩ := List.mem_map.mp h
    by_cases c : x.1 = p
    · rw [if_pos c]
      exact .inr rfl
    · rw [if_neg c]
      exact .inl hx
  · rcases List.mem_append.mp h with h | h
    · exact .inl h
    · rw [List.mem_singleton.mp h]
      exact .inr rfl
theorem wfN_put {N : Nd} {pl : Pl} {ws : List Str} (W : WfN N) (hn : Next N pl) (hw : WsOk ws) : WfN (put N pl ws) := by
  have wok : ∀ e ∈ put N pl ws, ∀ w ∈ e.2, PyData.strOk w = true := fun e he => by
    rcases mem_put he with h | h
    · exact W.wok e h
    · rw [h]
      exact hw
  have nd : (keys (put N pl ws)).Nodup := put_nodup W.nd
  by_cases c : pl ∈ keys N
  · have e : keys (put N pl ws) = keys N := by rw [keys_put, if_pos c]
    exact ⟨nd, by rw [e]; exact W.root, by rw [e]; exact W.pre, by rw [e]; exact W.len, by rw [e]; exact W.labs, wok⟩
  · have e : keys (put N pl ws) = keys N ++ [pl] := by rw [keys_put, if_neg c]
    rcases hn with hn | ⟨p, a, hp, rfl, hl, hlen⟩
    · exact absurd hn c
    refine ⟨nd, by rw [e]; exact List.mem_append_left _ W.root, fun q b h => ?_, fun q h => ?_, fun q h => ?_, wok⟩
    · rw [e] at h ⊢
      rcases List.mem_append.mp h with h | h
      · exact List.mem_append_left _ (W.pre q b h)
      · have h := List.mem_singleton.mp h
        obtain ⟨e1, _⟩ := List.append_inj' h rfl
        rw [e1]
        exact List.mem_append_left _ hp
    · rw [e] at h
      rcases List.mem_append.mp h with h | h
      · exact W.len q h
      · rw [List.mem_singleton.mp h]
        exact hlen
    · rw [e] at h
      rcases List.mem_append.mp h with h | h
      · exact W.labs q h
      · rw [List.mem_singleton.mp h]
        intro b hb
        rcases List.mem_append.mp hb with hb | hb
        · exact W.labs p hp b hb
        · rw [List.mem_singleton.mp hb]
          exact hl
theorem wfN_all : WfN [([], [("all" : Str)])] :=
  ⟨by simp [keys], by simp [keys], fun p a h => (by simp [keys] at h), fun p h => (by simp [keys] at h; subst h; exact Nat.zero_le _), fun p h a ha => (by simp [keys] at h; subst h; cases ha), fun e he w hw => (by
    rw [List.mem_singleton.mp he] at hw
    rw [List.mem_singleton.mp hw]
    decide +kernel)⟩
abbrev sc_law_nodesS : Stmt := (top 36)
abbrev sc_law_nodesN : List Str := ["_law_cells", "_law_nodes_here", "_law_made_here", "_law_cell", "_law_above", "_law_place_here"]
abbrev sc_law_nodesP : List Str := ["_law_cells"]
theorem sc_law_nodes : FnScope sc_law_nodesN sc_law_nodesP (defScope sc_law_nodesS) := ⟨rfl, rfl, rfl, by decide +kernel, rfl, by decide +kernel, by decide +kernel⟩
section
variable {P : Program} {w : World} {K : PySem.W.Frag} {mg : Str → Option Value} {base : Heap}
theorem ok_law_nodes {f : Addr} {fd : FuncData} (D : DefAt K mg "_law_nodes" sc_law_nodesS f fd) (B : Bt mg) (C_law_label : CallOk P w K mg base 1 "_law_label" sc_law_labelP spLab) (C_law_words : CallOk P w K mg base 2 "_law_words" sc_law_wordsP spWords) : CallOk P w K mg base 3 "_law_nodes" sc_law_nodesP (spNodes K) := by
  refine D.call sc_law_nodes (fun vs H Q E h => ?_) (fun _ _ _ _ _ _ us hl => match us, hl with | [_], _ => rfl) (fun cdv A outer s H vs Q E hr h => ?_)
  · obtain ⟨_, _, rfl, _⟩ := h
    rfl
  have hu := hu_of hr
  refine ⟨_, (pss_cons (ps_set (i := 1) sc_law_nodes.nd rfl (Or.inl rfl) (pe_disp1 (Nat.lt_of_succ_lt hu) (pe_tup pa_nil) (pe_tup (pa_cons pe_str pa_nil)))) (pss_cons (ps_set (i := 2) sc_law_nodes.nd rfl (Or.inl rfl) (pe_lst (pa_cons (pe_tup pa_nil) pa_nil))) (pss_cons (ps_for PassesOwn.never rfl (pi_list (pv 0)) (pg_name (i := 3) sc_law_nodes.nd rfl (Or.inl rfl)) (pss_cons (ps_set (i := 4) sc_law_nodes.nd rfl (Or.inl rfl) (pe_ix (r := rIxL K) ix_list (pv 2) (pe_op op_mod (pe_op op_add (pe_op op_fdiv (pv 3) pe_int) (pe_op op_mod (pv 3) pe_int)) (pe_callB (r := Evl.rLenS K) call_len_seq (by rfl) B.len PySem.boot_len (pa_cons (pv 2) pa_nil))) (fun _ _ => rfl))) (pss_cons (ps_set (i := 5) sc_law_nodes.nd rfl (Or.inl rfl) (pe_op (r := rCatA K) op_catA (pv 4) (pe_tup (pa_cons (pe_cal C_law_label hr (by decide) rfl (pa_cons (pe_op op_fdiv (pv 3) pe_int) pa_nil)) pa_nil)))) (Evl.pss_cut (ps_if (PW.pt (pw_or (pt_cmpR op_gt (pe_callB (r := Evl.rLenS K) call_len_seq (by rfl) B.len PySem.boot_len (pa_cons (pv 5) pa_nil)) pe_int (nomark _)) (pw_or1 (pt_cmpR op_eq (pe_op op_mod (pv 3) pe_int) pe_int (nomark _))))) (pss_one (ps_set (i := 5) sc_law_nodes.nd rfl (Or.inl rfl) (pv 4))) pss_nil) (Evl.pss_cut (ps_if (pt_cmp (pc_dnotin hu (pv 5) (pv 1)) rfl) (pss_one (ps_expr (pe_bm PySem.F.plainAttrs_list PySem.F.slot_list_append PySem.F.type_list_append mt_append (pv 2) (pa_cons (pv 5) pa_nil)))) pss_nil) (pss_one (ps_dput hu (pv 1) (pv 5) (pe_cal C_law_words hr (by decide) rfl (pa_cons (pe_op op_fdiv (pv 3) pe_int) pa_nil)) rfl))))))) (pss_one (ps_ret (pv 1)))))), ?_⟩
  obtain ⟨a, ns, rfl, hS, hn, q⟩ := h
  refine fun d hd => ⟨Nat.zero_le _, fun p hp => ⟨(by show 1 ≤ sizeLine; decide), fun r hr1 => ?_⟩⟩
  have s1 : Same (upd H d (.dT [])) (upd (upd (upd H d (.dT [])) p (.tup [])) r (.tup [.str "all"])) := (Same.new hp).trans (Same.new hr1)
  refine ⟨s1 _ _ upd_same, p, kk [], rfl, (Same.new hr1) _ _ upd_same, ?_⟩
  have dr : r ≠ d := Ne.symm (ne_of_none (Same.new (o := .tup []) hp d _ upd_same) hr1)
  have s2 : Same H (upd (upd (upd (upd H d (.dT [])) p (.tup [])) r (.tup [.str "all"])) d (.dT [(kk [], .ref r)])) := Same.put hd ((Same.new hd).trans s1)
  have e2 : upd (upd (upd (upd H d (.dT [])) p (.tup [])) r (.tup [.str "all"])) d (.dT [(kk [], .ref r)]) r = some (.tup [.str "all"]) := by
    rw [upd_ne dr]
    exact upd_same
  have e3 : upd (upd (upd (upd H d (.dT [])) p (.tup [])) r (.tup [.str "all"])) d (.dT [(kk [], .ref r)]) d = some (.dT [(kk [], .ref r)]) := upd_same
  generalize upd (upd (upd (upd H d (.dT [])) p (.tup [])) r (.tup [.str "all"])) d (.dT [(kk [], .ref r)]) = H1 at s2 e2 e3 ⊢
  have d1 : ∀ {G : Hp}, Same H1 G → DAt G d [([], [("all" : Str)])] := fun s => ⟨_, s _ _ e3, .cons ⟨rfl, r, rfl, s _ _ e2⟩ .nil⟩
  refine ⟨Nat.zero_le _, fun p2 hp2 => ⟨(by show 1 ≤ sizeLine; decide), fun m hm => ?_⟩⟩
  have s3 : Same H1 (upd (upd H1 p2 (.tup [])) m (.lst [.ref p2])) := (Same.new hp2).trans (Same.new hm)
  have hm0 : H m = none := (s2.trans (Same.new (o := .tup []) hp2)).free hm
  have dm : d ≠ m := ne_of_none (Same.new (o := .tup []) hp2 d _ e3) hm
  refine ⟨_, rfl, a, rfl, ⟨_, Same.seq (s2.trans s3) hS⟩, for_list (xs := ns.map V.int) (fun i σ H' => Same H H' ∧ ∃ N us o3 o4 o5, σ = [some (.ref a), some (.ref d), some (.ref m), o3, o4, o5] ∧ DAt H' d N ∧ WfN N ∧ N.length ≤ i + 1 ∧ H' m = some (.lst us) ∧ Paired (SAt H') us (keys N))
    ⟨s2.trans s3, _, _, none, none, none, rfl, d1 s3, wfN_all, Nat.le_refl _, upd_same, .cons ⟨p2, rfl, (Same.new hm) _ _ upd_same⟩ .nil⟩ (fun i σ H' _ s => Same.seq s.1 hS) ?_ ?_⟩
  · rintro i x σ H' hi ⟨s4, N, us, o3, o4, o5, rfl, hD, W, hN, hl, hp⟩
    rw [List.getElem?_map] at hi
    obtain ⟨z, hz, rfl⟩ := Option.map_eq_some_iff.mp hi
    have hlen : us.length = N.length := by rw [hp.length]; exact List.length_map _
    have hin : i < ns.length := (List.getElem?_eq_some_iff.mp hz).1
    have hne : 0 < us.length := by
      rw [hlen]
      have := W.root
      cases N with
      | nil => cases this
      | cons => exact Nat.succ_pos _
    obtain ⟨y, hy, ey⟩ := atI_mod us (z / 120 + z % 120) (us.length : Nat) rfl (by omega)
    obtain ⟨pa, hpa, ⟨ya, rfl, hya⟩⟩ := (paired_mem hp).1 y hy
    have lpa := W.len pa hpa
    refine ⟨_, rfl, _, rfl, _, _, rfl, rfl, ⟨by decide, by decide⟩, _, rfl, _, _, rfl, rfl, (by show (0 : Int) < 120; decide), _, _, rfl, rfl, _, rfl, m, us, rfl, .inl (SqL.of hl), _, _, rfl, rfl, (by show (0 : Int) < (us.length : Nat); omega), m, us, _, _, rfl, rfl, SqL.of hl, ey, ?_⟩
    refine ⟨_, rfl, _, rfl, _, _, rfl, rfl, ⟨by decide, by decide⟩, _, rfl, fun H2 l s5 hl5 => ⟨(by show 1 ≤ sizeLine; decide), fun t ht => ?_⟩⟩
    have s6 := s5.trans (Same.new (o := .tup [.str l]) ht)
    refine catP (s6 _ _ hya) upd_same (by omega) fun H3 x s7 hx => ?_
    have s8 := s6.trans s7
    refine ⟨fun σ' G => Same H' G ∧ ∃ v4 x pl, σ' = [some (.ref a), some (.ref d), some (.ref m), some (.int z), some v4, some x] ∧ SAt G x pl ∧ Next N pl, ?_, ?_⟩
    · obtain ⟨xa, rfl, hxa⟩ := hx
      have low : ∀ G, Same H3 G → (fun σ' G => Same H' G ∧ ∃ v4 x pl, σ' = [some (.ref a), some (.ref d), some (.ref m), some (.int z), some v4, some x] ∧ SAt G x pl ∧ Next N pl) [some (.ref a), some (.ref d), some (.ref m), some (.int z), some (.ref ya), some (.ref ya)] G := fun G sG => ⟨s8.trans sG, _, _, pa, rfl, ⟨ya, rfl, (s8.trans sG) _ _ hya⟩, .inl hpa⟩
      refine ⟨_, rfl, xa, _, rfl, .inr (SqT.of hxa), _, _, rfl, rfl, _, rfl, ?_⟩
      refine ite2 (fun c1 => iteT ⟨_, rfl, low H3 (Same.refl _)⟩) (fun c1 => ?_)
      refine ⟨_, rfl, _, _, rfl, rfl, (by show (0 : Int) < 7; decide), rfl, _, rfl, ?_⟩
      refine ite2 (fun c2 => ⟨_, rfl, low H3 (Same.refl _)⟩) (fun c2 => ?_)
      refine ⟨s8, _, _, _, rfl, ⟨xa, rfl, hxa⟩, .inr ⟨pa, l, hpa, rfl, hl5, ?_⟩⟩
      have c1 : ¬ (8 : Int) < ((pa ++ [l]).map V.str).length := fun q => c1 (decide_eq_true q)
      rw [List.length_map] at c1
      omega
    rintro σ' G ⟨s9, v4, x, pl, rfl, hx, hnx⟩
    obtain ⟨xa, rfl, hxa⟩ := hx
    have hDG := hD.same s9
    have hpG : Paired (SAt G) us (keys N) := Paired.mono (fun _ _ h => h.keep (.of s9)) hp
    refine ⟨fun σ' G2 => Same H G2 ∧ DAt G2 d N ∧ ∃ us', σ' = [some (.ref a), some (.ref d), some (.ref m), some (.int z), some v4, some (.ref xa)] ∧ G2 xa = some (.tup (pl.map V.str)) ∧ G2 m = some (.lst us') ∧ Paired (SAt G2) us' (keys (put N pl [])), ?_, ?_⟩
    · obtain ⟨_, o, hg, ho⟩ := dget_of hDG hxa
      refine ⟨_, rfl, _, rfl, d, o, rfl, hg, _, rfl, ?_⟩
      rw [ho]
      cases hk : (lk N pl).isSome with
      | true =>
        have hm2 : pl ∈ keys N := lk_mem.mp hk
        refine iteF ⟨s4.trans s9, hDG, us, rfl, hxa, s9 _ _ hl, ?_⟩
        rw [keys_put, if_pos hm2]
        exact hpG
      | false =>
        have hm2 : pl ∉ keys N := fun q => by rw [lk_mem.mpr q] at hk; cases hk
        refine iteT ⟨_, rfl, .inl ⟨rfl, _, .inl (.inl (s9 _ _ hl))⟩, _, rfl, m, us, _, rfl, rfl, s9 _ _ hl, small1000 (by omega), Same.put hm0 (s4.trans s9), ?_, us ++ [.ref xa], rfl, ?_, upd_same, ?_⟩
        · obtain ⟨kvs, k1, k2⟩ := hDG
          exact ⟨kvs, by rw [upd_ne dm]; exact k1, k2.keep (.put (s9 _ _ hl) fun _ z => by cases z)⟩
        · exact TupK.put (s9 _ _ hl) (fun _ z => by cases z) _ _ hxa
        · rw [keys_put, if_neg hm2]
          have tk : TupK G (upd G m (.lst (us ++ [.ref xa]))) := .put (s9 _ _ hl) fun _ z => by cases z
          exact pair_app (.cons ⟨xa, rfl, tk _ _ hxa⟩ .nil) (Paired.mono (fun _ _ h => h.keep tk) hpG)
    rintro σ' G2 ⟨s10, hD2, us', rfl, hxa2, hl2, hp2'⟩
    refine ⟨_, rfl, _, _, rfl, rfl, ⟨by decide, by decide⟩, _, rfl, fun G3 w ws s11 hw hws => ?_⟩
    obtain ⟨G4, hput, hD4, o, rfl⟩ := dput_of (hD2.same s11) (s11 _ _ hxa2) hw (small1000 (by omega))
    refine ⟨_, rfl, _, rfl, d, _, rfl, hput, Same.put hd (s10.trans s11), _, us', _, _, _, rfl, hD4, wfN_put W hnx hws, ?_, ?_, ?_⟩
    · have := put_len N pl ws
      omega
    · rw [upd_ne (Ne.symm dm)]
      exact s11 _ _ hl2
    · obtain ⟨kvs, k1, k2⟩ := hD2.same s11
      have tk : TupK G3 (upd G3 d o) := .put k1 fun _ z => by cases z
      have e : keys (put N pl ws) = keys (put N pl []) := by rw [keys_put, keys_put]
      rw [e]
      exact Paired.mono (fun _ _ h => (h.keep (.of s11)).keep tk) hp2'
  · rintro σ H' ⟨s4, N, us, o3, o4, o5, rfl, hD, W, hN, hl, hp⟩
    rw [List.length_map] at hN
    exact ⟨_, rfl, q _ _ _ s4 hd hD W hN⟩
end
end Cm
end

section
/-! Defs that hold lambdas: their code objects' tables; the promise of a key's lambda. -/
namespace Cm
open PySem PySem.Spec PyProof.Rows L2 LamX
theorem ext_tup {H H' : Hp} (e : ExtN H H') : TupK H H' := fun b xs h => e b _ h fun ps z => by cases z
theorem ext_put {H H1 : Hp} {p : Addr} {o : HO} (h : H p = none) (e : ExtN H H1) : ExtN H (upd H1 p o) := fun b u hb n => by
  rw [upd_ne (ne_of_none hb h)]
  exact e b u hb n
/-- tables and what is known by its object stay -/
def KeepX (H H' : Hp) : Prop := ∀ b o, H b = some o → ((∃ ps, o = .tbl ps) ∨ ∃ c q, o = CodeO c q) → H' b = some o
theorem tabs_but {T : List (Addr × Str)} {H H' : Hp} (t : Tabs T H) (e : KeepX H H') : Tabs T H' := fun p hp => by
  obtain ⟨ps, h1, h2, h3⟩ := t p hp
  refine ⟨ps, e _ _ h1 (.inl ⟨_, rfl⟩), h2, fun pos cv hc => ?_⟩
  obtain ⟨c, e1, e2⟩ := h3 pos cv hc
  exact ⟨c, e1, e _ _ e2 (.inr ⟨_, _, rfl⟩)⟩
theorem tabs_same {T : List (Addr × Str)} {H H' : Hp} (t : Tabs T H) (s : Same H H') : Tabs T H' := t.ext s
/-- a list or a dict is written -/
theorem keepX_put {H : Hp} {p : Addr} {o u : HO} (h : H p = some u) (h1 : ∀ ps, u ≠ .tbl ps) (h2 : ∀ c q, u ≠ CodeO c q) : KeepX H (upd H p o) := fun b v e k => by
  rw [upd_ne fun z => ?_]
  · exact e
  · rw [z, h] at e
    cases e
    rcases k with ⟨ps, k⟩ | ⟨c, q, k⟩
    · exact h1 ps k
    · exact h2 c q k
theorem tabB_keep {base B : Heap} {mg : Str → Option Value} {c P : Addr} (h : TabB base mg c P) (k : ∀ b o, base.get? b = some o → B.get? b = some o) : TabB B mg c P := by
  obtain ⟨o, vs, file, tf, flags, tg, inF, text, tt, h1, h2⟩ := h.code
  exact ⟨⟨o, vs, file, tf, flags, tg, inF, text, tt, k _ _ h1, h2⟩, h.bm.keeps k, h.gP⟩
structure DefC (K : PySem.W.Frag) (mg : Str → Option Value) (x : Str) (st : Stmt) (f : Addr) (fd : FuncData) (c : Addr) : Prop where
  F : FunC K x st f fd c
  g : mg x = some (.ref f)
section
variable {P : Program} {w : World} {K : PySem.W.Frag} {mg : Str → Option Value} {base : Heap}
theorem DefC.call {x : Str} {st : Stmt} {f c : Addr} {fd : FuncData} {N ps : List Str} {k : Nat} {sp : Sp} (D : DefC K mg x st f fd c) (S : FnScope N ps (defScope st)) (len : ∀ vs H Q E, sp vs H Q E → vs.length = ps.length)
    (hb : ∀ (kV doc pm : Value) (an : Option Addr) (cdv ct : Value) (us : List Value), us.length = ps.length → bindArgs (PySem.W.fnOf x x (defArgs st) (defBody st) (defScope st) .none kV doc pm an cdv ct) ⟨us, []⟩ = pure (ps.zip us))
    (hbody : ∀ (A : Around) (outer : List Env) (s : Shared) (H : Hp) (vs : List V) (Q : VK) (E : XK), Room k (A.deeper (envOfC x (defScope st) s.heap.objs.size f (.ref c))) → sp vs H Q E →
      ∃ t, PSs (cxOf CX0 P w K mg base N x (defScope st) f (.ref c) A outer s H E).nox (defBody st) t ∧ t { nx := fun _ H' => Q .non H', rt := Q } (start N vs) H) : CallOk P w K mg base (k + 1) x ps sp :=
  ⟨f, fd, D.F.ok S len hbody, D.g, D.F.kp, D.F.fun.binds hb⟩
theorem DefC.zero {x : Str} {st : Stmt} {f c : Addr} {fd : FuncData} {N ps : List Str} {k : Nat} {sp : Sp} (D : DefC K mg x st f fd c) (S : FnScope N ps (defScope st)) 
    (hb : ∀ (kV doc pm : Value) (an : Option Addr) (cdv ct : Value) (us : List Value), us.length = ps.length → bindArgs (PySem.W.fnOf x x (defArgs st) (defBody st) (defScope st) .none kV doc pm an cdv ct) ⟨us, []⟩ = pure (ps.zip us))
    (h0 : ∀ vs H Q E, ¬ sp vs H Q E) : CallOk P w K mg base (k + 1) x ps sp := D.call S (fun vs H Q E h => absurd h (h0 vs H Q E)) hb fun A outer s H vs Q E hr h => absurd h (h0 vs H Q E)
end
end Cm
end

section
/-! The law's tree of a table. -/
namespace Cm
open PySem PySem.Spec PyProof.Rows L2 LamX
noncomputable def plOf (H : Hp) (x : V) : Pl := Classical.epsilon fun p => SAt H x p
theorem plOf_eq {H : Hp} {x : V} {p : Pl} (h : SAt H x p) : plOf H x = p := SAt.inj (Classical.epsilon_spec (p := fun p => SAt H x p) ⟨p, h⟩) h
/-- the key of a place: its last label's -/
noncomputable def pkey (H : Hp) (x : V) : Int × Str := (((key (lastLab (plOf H x))).1 : Int), kS (lastLab (plOf H x)))
theorem kLt_key {a b : Str} : kLt (((key a).1 : Int), kS a) (((key b).1 : Int), kS b) ↔ klt (key a) (key b) := by
  unfold kLt klt kS
  simp only [List.toList_toArray, Int.ofNat_lt, Int.ofNat_inj]
/-- the lambda of a place's key -/
def spPK : Sp := fun vs H Q _ => ∃ (p : Pl) (x : V), vs = [x] ∧ SAt H x p ∧ p ≠ [] ∧ IsLab (lastLab p) ∧ ∀ (r : Addr) (H' : Hp), Same H H' → H' r = some (.tup [.int (key (lastLab p)).1, .str (kS (lastLab p))]) → Q (.ref r) H'
def spTree (K : PySem.W.Frag) (T : List (Addr × Str)) (n : Nat) : Sp := fun vs H Q _ => ∃ (d : Addr) (N : Nd) (pl : Pl) (u : V), vs = [.ref d, u] ∧ DAt H d N ∧ SAt H u pl ∧ WfN N ∧ pl ∈ keys N ∧ N.length ≤ 90000 ∧ 8 - pl.length < n ∧ Tabs T H ∧
  ∀ H' y t, ExtN H H' → Tabs T H' → TAt H' t y → TreeOf N.length N pl t → Q y H'
theorem paired_some {α β : Type} {F : α → β → Prop} : ∀ {l : List α}, (∀ a ∈ l, ∃ b, F a b) → ∃ m, Paired F l m
  | [], _ => ⟨[], .nil⟩
  | a :: l, h => by
    obtain ⟨b, hb⟩ := h a List.mem_cons_self
    obtain ⟨m, hm⟩ := paired_some (l := l) fun x hx => h x (List.mem_cons_of_mem _ hx)
    exact ⟨b :: m, .cons hb hm⟩
theorem paired_of_map {α β : Type} {F : α → β → Prop} {f : α → β} : ∀ {l : List α}, (∀ a ∈ l, F a (f a)) → Paired F l (l.map f)
  | [], _ => .nil
  | a :: l, h => .cons (h a List.mem_cons_self) (paired_of_map fun x hx => h x (List.mem_cons_of_mem _ hx))
/-- what sorted gives, told of the places -/
theorem sorted_pl {H : Hp} {out vs : List V} {cs : List Pl} (h : Paired (SAt H) vs cs) (hp : out.Perm vs) (ho : out.Pairwise fun a b => ¬ kLt (pkey H b) (pkey H a)) :
    ∃ cs', Paired (SAt H) out cs' ∧ cs'.Perm cs ∧ cs'.Pairwise fun a b => ¬ klt (key (lastLab b)) (key (lastLab a)) := by
  have e : vs.map (plOf H) = cs := by
    have := paired_map (f := plOf H) (g := fun p => p) (fun a b r => plOf_eq r) h
    rw [this, List.map_id']
  have each : ∀ x ∈ out, SAt H x (plOf H x) := fun x hx => by
    obtain ⟨p, _, r⟩ := (paired_mem h).1 x (hp.mem_iff.mp hx)
    rw [plOf_eq r]
    exact r
  refine ⟨out.map (plOf H), paired_of_map each, by rw [← e]; exact hp.map _, ?_⟩
  rw [List.pairwise_map]
  exact ho.imp fun {a b} z k => z (kLt_key.mpr k)
abbrev sc_law_treeS : Stmt := (top 37)
abbrev sc_law_treeN : List Str := ["_law_nodes_here", "_law_place_here", "_law_kids", "_law_label_here", "_law_other", "_law_kid_here"]
abbrev sc_law_treeP : List Str := ["_law_nodes_here", "_law_place_here"]
theorem sc_law_tree : FnScope sc_law_treeN sc_law_treeP (defScope sc_law_treeS) := ⟨rfl, rfl, rfl, by decide +kernel, rfl, by decide +kernel, by decide +kernel⟩
section
variable {P : Program} {w : World} {K : PySem.W.Frag} {mg : Str → Option Value} {base : Heap}
theorem ok_law_tree_step {f c tp : Addr} {fd : FuncData} {n : Nat} {T : List (Addr × Str)} (D : DefC K mg "_law_tree" sc_law_treeS f fd c) (B : Bt mg) (TB : TabB base mg c tp) (hm : (tp, ("_law_tree.<locals>.<lambda>" : Str)) ∈ T) (hu1 : ∀ p ∈ T, p.1 = tp → p.2 = ("_law_tree.<locals>.<lambda>" : Str))
    (C_law_key : CallOk P w K mg base 1 "_law_key" sc_law_keyP spKey) (C_law_tree : CallOk P w K mg base (n + 5) "_law_tree" sc_law_treeP (spTree K T n)) : CallOk P w K mg base (n + 6) "_law_tree" sc_law_treeP (spTree K T (n + 1)) := by
  refine D.call sc_law_tree (fun vs H Q E h => ?_) (fun _ _ _ _ _ _ us hl => match us, hl with | [_, _], _ => rfl) (fun A outer s H vs Q E hr h => ?_)
  · obtain ⟨_, _, _, _, rfl, _⟩ := h
    rfl
  have hu := hu_of hr
  have hu64 := hr.units
  refine ⟨_, (Evl.pss_cut (ps_lock (ps_setLc (i := 2) (own := [("_law_other", 4)]) (g := gName 4) rfl sc_law_tree.nd rfl rfl (sw_true rfl rfl rfl (by decide +kernel)) (pi_keys (pv 0)) (blkOk_by (N := sc_law_treeN) (sc := defScope sc_law_treeS) (by decide +kernel)) (fun _ _ _ _ _ => pg_name (i := 4) sc_law_tree.nd rfl (Or.inl rfl)) (fun _ _ _ _ _ => (pts_one (PW.pt (pw_and (pt_cmpR op_eq (pe_callB (r := Evl.rLenS K) call_len_seq (by rfl) B.len PySem.boot_len (pa_cons (pv 4) pa_nil)) (pe_op op_add (pe_callB (r := Evl.rLenS K) call_len_seq (by rfl) B.len PySem.boot_len (pa_cons (pv 1) pa_nil)) pe_int) (nomark _)) (pw_and1 (pt_cmpR (r := rEqD K) (op_eqD hu64) (pe_slice (r := rSlA K) sl_tupA (pv 4) po_none (po_some (pe_un un_neg pe_int))) (pv 1) (nomark _))))))) (fun _ _ _ _ _ => (pv 4)))) (Evl.pss_cut (ps_set (i := 2) sc_law_tree.nd rfl (Or.inl rfl) (pe_callBK (cr_sortL (k := 2) (hr.mono (by omega))) (by rfl) B.sorted (by decide +kernel) (pa_cons (pv 2) pa_nil) (pk_cons (pe_lam (T := T) (q := "_law_tree.<locals>.<lambda>") TB rfl rfl hm hu1 rfl (by rfl)) pk_nil))) (pss_cons (ps_set (i := 3) sc_law_tree.nd rfl (Or.inl rfl) pe_str) (Evl.pss_cut (ps_if (pt_cmpR (r := rNeD K) (op_neD hu64) (pv 1) (pe_tup pa_nil) (nomark _)) (pss_one (ps_set (i := 3) sc_law_tree.nd rfl (Or.inl rfl) (pe_ix (r := rIxT K) ix_tup (pv 1) (pe_un un_neg pe_int) (fun _ _ => rfl)))) pss_nil) (pss_one (ps_ret (pe_tup (pa_cons (pv 3) (pa_cons (pe_dget hu (pv 0) (pv 1) (fun _ _ => rfl)) (pa_cons (pe_callTy call_tuple_of (by rfl) B.tuple (by decide +kernel) (pa_cons (pe_lc (own := [("_law_kid_here", 5)]) (g := gName 5) (tt := tYes) rfl sc_law_tree.nd (pi_list (pv 2)) (blkOk_by (N := sc_law_treeN) (sc := defScope sc_law_treeS) (by decide +kernel)) (fun _ _ _ _ _ => pg_name (i := 5) sc_law_tree.nd rfl (Or.inl rfl)) (fun _ _ _ _ _ => pts_nil) (fun _ _ _ _ _ => (pe_cal C_law_tree hr (Nat.le_refl _) rfl (pa_cons (pv 0) (pa_cons (pv 5) pa_nil))))) pa_nil)) pa_nil)))))))))), ?_⟩
  obtain ⟨d, N, pl, u, rfl, hD, hp, W, hin, hN, hlev, hT, q⟩ := h
  have hT0 : T = T := rfl
  obtain ⟨ua, rfl, hua⟩ := hp
  obtain ⟨kvs, hd, hkv⟩ := hD
  have labP : ∀ p ∈ keys N, ∀ a ∈ p, PyData.strOk a = true := fun p h => labs_ok (W.labs p h)
  refine ⟨fun σ' H' => Same H H' ∧ ∃ L vs, σ' = [some (.ref d), some (.ref ua), some (.ref L), none, none, none] ∧ H' L = some (.lst vs) ∧ Paired (SAt H') vs ((keys N).filter (isKid pl)), ?_, ?_⟩
  · refine ⟨d, .dT kvs, hd, True.intro, fun od => ?_⟩
    have hud : ua ≠ d := fun z => by rw [z, hd] at hua; cases hua
    have tkF : TupK H (upd H d (.frz od (.dT kvs))) := .put hd fun _ z => by cases z
    generalize hF : upd H d (.frz od (.dT kvs)) = Hf at tkF ⊢
    have hdF : Hf d = some (.frz od (.dT kvs)) := by rw [← hF]; exact upd_same
    refine ⟨_, rfl, d, od, rfl, .inr ⟨kvs, hdF, fun L hL => lc_keysT (fun i H' => Same Hf H' ∧ ∃ vs, H' L = some (.lst vs) ∧ Paired (SAt H') vs (((keys N).take i).filter (isKid pl))) ⟨Same.new hL, [], upd_same, .nil⟩ (fun i H' _ s => s.1 _ _ hdF) ?_ ?_⟩⟩
    · rintro i k v r H' hi hr1 ⟨s1, vs, hl, hvs⟩
      obtain ⟨p, ws, hNi, rfl, _⟩ := kv_at hkv hi
      rw [kk_v] at hr1
      have hki : (keys N)[i]? = some p := by
        show (N.map (·.1))[i]? = _
        rw [List.getElem?_map, hNi]
        rfl
      have hpk : p ∈ keys N := List.mem_of_getElem? hki
      have hvl : vs.length < sizeLine := Evl.sz_lt (by
        have a1 := hvs.length
        have a2 := List.length_filter_le (isKid pl) ((keys N).take i)
        have a3 := List.length_take_le' i (keys N)
        have a4 : (keys N).length = N.length := List.length_map _
        omega)
      have put : ∀ H2, Same H' H2 → Same Hf (upd H2 L (.lst (vs ++ [.ref r]))) ∧ ∃ vs', upd H2 L (.lst (vs ++ [.ref r])) L = some (.lst vs') ∧ Paired (SAt (upd H2 L (.lst (vs ++ [.ref r])))) vs' (((keys N).take i).filter (isKid pl) ++ [p]) := fun H2 s2 => by
        have tk : TupK H2 (upd H2 L (.lst (vs ++ [.ref r]))) := .put (s2 _ _ hl) fun _ z => by cases z
        exact ⟨Same.put hL (s1.trans s2), _, upd_same, pair_app (.cons ⟨r, rfl, tk _ _ (s2 _ _ hr1)⟩ .nil) (Paired.mono (fun _ _ h => (h.keep (.of s2)).keep tk) hvs)⟩
      have step : ((keys N).take (i + 1)).filter (isKid pl) = ((keys N).take i).filter (isKid pl) ++ (if isKid pl p = true then [p] else []) := by
        rw [take_succ hki, List.filter_append]
        congr 1
        cases hp : isKid pl p <;> simp [hp]
      refine ⟨rfl, _, rfl, r, _, rfl, .inr (SqT.of hr1), _, rfl, ua, _, rfl, .inr (SqT.of (s1 _ _ (tkF _ _ hua))), _, _, rfl, rfl, rfl, _, rfl, ?_⟩
      have e1 : decide (V.int ((p.map V.str).length : Nat) = V.int (((pl.map V.str).length : Nat) + 1)) = decide (p.length = pl.length + 1) := by
        refine decide_eq_decide.mpr ?_
        rw [List.length_map, List.length_map]
        constructor
        · intro z
          have := V.int.inj z
          omega
        · intro z
          congr 1
          omega
      refine cast (congrArg (fun b => if b = true then _ else _) e1.symm) ?_
      refine ite2 (fun z => ?_) (fun z => ?_)
      · refine ⟨_, rfl, _, rfl, _, rfl, sl_init hr1 fun H2 u2 s2 hu2 => ⟨_, rfl, eqP hu2 ⟨ua, rfl, s2 _ _ (s1 _ _ (tkF _ _ hua))⟩ (fun a ha => labP p hpk a ((List.dropLast_sublist p).subset ha)) (labP pl hin) ⟨_, rfl, ?_⟩⟩⟩
        have e2 : decide (p.dropLast = pl) = isKid pl p := by
          unfold isKid
          rw [decide_eq_true (of_decide_eq_true z), Bool.true_and]
        rw [e2]
        cases hk : isKid pl p with
        | true =>
          refine iteT ⟨_, rfl, vs, s2 _ _ hl, hvl, ?_⟩
          rw [step, hk, if_pos rfl]
          exact put H2 s2
        | false =>
          refine iteF ⟨s1.trans s2, vs, s2 _ _ hl, ?_⟩
          rw [step, hk, if_neg Bool.false_ne_true, List.append_nil]
          exact Paired.mono (fun _ _ h => h.keep (.of s2)) hvs
      · have hk : isKid pl p = false := by
          unfold isKid
          rw [decide_eq_false (fun y => z (decide_eq_true y)), Bool.false_and]
        refine ⟨s1, vs, hl, ?_⟩
        rw [step, hk, if_neg Bool.false_ne_true, List.append_nil]
        exact hvs
    · rintro H' ⟨s1, vs, hl, hvs⟩
      have e : (keys N).take kvs.length = keys N := List.take_of_length_le (by rw [kv_len hkv]; exact Nat.le_of_eq (List.length_map _))
      rw [e] at hvs
      have dL : d ≠ L := ne_of_none hdF hL
      have tk : TupK H' (upd H' d (.dT kvs)) := .put (s1 _ _ hdF) fun _ z => by cases z
      refine ⟨s1 _ _ hdF, fun b o hb => ?_, L, vs, rfl, ?_, Paired.mono (fun _ _ h => h.keep tk) hvs⟩
      · by_cases z : b = d
        · rw [z, hd] at hb
          rw [z, upd_same]
          exact hb
        · rw [upd_ne z]
          refine s1 _ _ ?_
          rw [← hF, upd_ne z]
          exact hb
      · rw [upd_ne (Ne.symm dL)]
        exact hl
  rintro σ1 H1 ⟨s1, L, vs, rfl, hl, hvs⟩
  have kidP : ∀ p, p ∈ (keys N).filter (isKid pl) → p ∈ keys N ∧ p = pl ++ [lastLab p] := fun p h => ⟨(List.mem_filter.mp h).1, isKid_iff.mp (List.mem_filter.mp h).2⟩
  refine ⟨fun σ' H' => ExtN H H' ∧ Tabs T H' ∧ ∃ L out cs', σ' = [some (.ref d), some (.ref ua), some (.ref L), none, none, none] ∧ H' L = some (.lst out) ∧ Paired (SAt H') out cs' ∧ cs'.Perm ((keys N).filter (isKid pl)) ∧ cs'.Pairwise (fun a b => ¬ klt (key (lastLab b)) (key (lastLab a))), ?_, ?_⟩
  · refine ⟨_, rfl, tabs_same hT s1, fun g c' H2 e2 t2 hg0 hg hc' => ?_⟩
    have hvs2 : Paired (SAt H2) vs ((keys N).filter (isKid pl)) := Paired.mono (fun _ _ h => h.keep (ext_tup e2)) hvs
    refine ⟨L, g, _, spPK, vs, pkey H2, rfl, rfl, hg, hc', SqL.of (e2 _ _ hl fun ps z => by cases z), ?_, ?_, ?_⟩
    · refine lok_of (N := ["_law_kid_here"]) (ps := ["_law_kid_here"]) (fr := []) (ws := []) (NdefX.nscope_by (by rfl)) (fun vs H Q E h => ?_) (fun pm ctv us hl => match us, hl with | [_], _ => rfl) CellsB.nil (fun A2 outer2 s2 H3 vs3 Q3 hr3 h3 => ⟨_, pe_cal C_law_key hr3 (Nat.le_refl _) rfl (pa_cons (pe_ix (r := rIxT K) ix_tup (pv 0) (pe_un un_neg pe_int) (fun _ _ => rfl)) pa_nil), ?_⟩)
      · obtain ⟨_, _, rfl, _⟩ := h
        rfl
      · obtain ⟨p, x, rfl, ⟨xa, rfl, hxa⟩, hne, hlab, q3⟩ := h3
        exact ⟨_, rfl, _, rfl, ix_last hxa hne ⟨_, rfl, hlab, q3⟩⟩
    · intro x hx H3 s3 Q1 q1
      obtain ⟨p, hp, hxp⟩ := (paired_mem hvs2).1 x hx
      obtain ⟨hpk, hpe⟩ := kidP p hp
      have hne : p ≠ [] := fun z => by rw [z] at hpe; exact absurd hpe (by simp)
      refine ⟨p, x, rfl, hxp.keep (.of s3), hne, W.labs p hpk _ (by rw [hpe, lastLab_app]; exact List.mem_append_right _ List.mem_cons_self), fun r H4 s4 h4 => q1 r H4 s4 ?_⟩
      rw [h4]
      unfold pkey
      rw [plOf_eq hxp]
    · intro out p H3 s3 hp3 hperm hpw
      obtain ⟨cs', c1, c2, c3⟩ := sorted_pl hvs2 hperm hpw
      have s4 : Same H2 (upd H3 p (.lst out)) := s3.trans (Same.new hp3)
      exact ⟨((ExtN.of s1).trans e2).trans (ExtN.of s4), tabs_same t2 s4, p, out, cs', rfl, upd_same, Paired.mono (fun _ _ h => h.keep (.of s4)) c1, c2, c3⟩
  rintro σ2 H2 ⟨e2, t2, L2, out, cs', rfl, hl2, hout, hperm, hpw⟩
  have hua2 := ext_tup e2 _ _ hua
  refine ⟨fun σ' H' => Same H2 H' ∧ σ' = [some (.ref d), some (.ref ua), some (.ref L2), some (.str (lastLab pl)), none, none], ?_, ?_⟩
  · refine ⟨_, rfl, neP0 ⟨ua, rfl, hua2⟩ (labP pl hin) fun H3 s3 => ⟨_, rfl, ?_⟩⟩
    by_cases hz : pl = []
    · subst hz
      exact iteF ⟨s3, rfl⟩
    · rw [decide_eq_false hz]
      exact iteT ⟨_, rfl, _, rfl, ix_last (s3 _ _ hua2) hz ⟨s3, rfl⟩⟩
  rintro σ3 H3 ⟨s3, rfl⟩
  have e3 : ExtN H H3 := e2.trans (ExtN.of s3)
  have t3 := tabs_same t2 s3
  have hD3 : DAt H3 d N := ⟨kvs, e3 _ _ hd (fun ps z => by cases z), hkv.keep (ext_tup e3)⟩
  have hua3 := s3 _ _ hua2
  obtain ⟨ws, hws⟩ := Option.isSome_iff_exists.mp (lk_mem.mpr hin)
  obtain ⟨wv, hget, hwv⟩ := (dget_of hD3 hua3).1 ws hws
  refine ⟨_, rfl, _, rfl, _, rfl, d, wv, rfl, hget, _, rfl, L2, rfl, ⟨out, SqL.of (s3 _ _ hl2)⟩, fun M hM => lc_list (xs := out) (fun i H' => ExtN H3 H' ∧ Tabs T H' ∧ ∃ vs ts, H' M = some (.lst vs) ∧ TsAt H' ts vs ∧ Paired (TreeOf N.length N) (cs'.take i) ts) ⟨ExtN.of (Same.new hM), tabs_same t3 (Same.new hM), [], [], upd_same, tsAt_nil.mpr rfl, .nil⟩ (fun i H' _ p => SqL.of (p.1 _ _ (s3 _ _ hl2) fun ps z => by cases z)) ?_ ?_⟩
  · rintro i x H' hi ⟨e4, t4, vs, ts, hl4, hts, hpr⟩
    obtain ⟨p, hpi, hxp⟩ := pair_get hout hi
    have hpc : p ∈ (keys N).filter (isKid pl) := hperm.mem_iff.mp (List.mem_of_getElem? hpi)
    obtain ⟨hpk, hpe⟩ := kidP p hpc
    have lp := W.len p hpk
    have lp2 : p.length = pl.length + 1 := by
      have := congrArg List.length hpe
      rw [List.length_append] at this
      exact this
    have e34 := e3.trans e4
    refine ⟨rfl, ⟨_, rfl, _, rfl, d, N, p, x, rfl, ⟨kvs, e34 _ _ hd (fun ps z => by cases z), hkv.keep (ext_tup e34)⟩, hxp.keep (TupK.trans (.of s3) (ext_tup e4)), W, hpk, hN, by omega, t4, fun H5 y t e5 t5 hy tr => ?_⟩⟩
    have hl5 := e5 _ _ hl4 (fun ps z => by cases z)
    have tk : TupK H5 (upd H5 M (.lst (vs ++ [y]))) := .put hl5 fun _ z => by cases z
    refine ⟨vs, hl5, Evl.sz_lt ?_, ext_put hM (e4.trans e5), tabs_but t5 (keepX_put hl5 (fun _ z => by cases z) fun _ _ z => by cases z), vs ++ [y], ts ++ [t], upd_same, ?_, ?_⟩
    · have a1 := hts.len
      have a2 := hpr.length
      have a3 := List.length_take_le' i cs'
      have a4 := hperm.length_eq
      have a5 := List.length_filter_le (isKid pl) (keys N)
      have a6 : (keys N).length = N.length := List.length_map _
      omega
    · exact ((hts.keep (ext_tup e5)).keep tk).app (.one (hy.keep tk))
    · rw [take_succ hpi]
      exact pair_app (.cons tr .nil) hpr
  · rintro H' ⟨e4, t4, vs, ts, hl4, hts, hpr⟩
    have hlen : cs'.take out.length = cs' := List.take_of_length_le (Nat.le_of_eq hout.length.symm)
    rw [hlen] at hpr
    refine ⟨M, vs, rfl, .inl ⟨SqL.of hl4, fun p hp => ⟨(by show 3 ≤ sizeLine; decide), fun r hr3 => ?_⟩⟩⟩
    have s5 := (Same.new (o := .tup vs) hp).trans (Same.new (o := .tup [.str (lastLab pl), wv, .ref p]) hr3)
    refine q _ _ (.mk (lastLab pl) ws ts) ((e3.trans e4).trans (ExtN.of s5)) (tabs_same t4 s5) (TAt.mk2 upd_same ((hwv.keep (ext_tup e4)).keep (.of s5)) ((Same.new hr3) _ _ upd_same) (hts.keep (.of s5))) ?_
    exact tree_step W hws hperm hpw hpr (Nat.le_refl _)
end
end Cm
end

section
/-! The law's places, what is left when a place goes, a node laid into the table. -/
namespace Cm
open PySem PySem.Spec PyProof.Rows L2
def spPlace : Sp := fun vs H Q _ => ∃ (d : Addr) (n : Int) (N : Nd), vs = [.ref d, .int n] ∧ DAt H d N ∧ WfN N ∧ ∀ H' x pl, Same H H' → SAt H' x pl → PlOk pl → Q x H'
def spGone : Sp := fun vs H Q _ => ∃ (d : Addr) (u : V) (N : Nd) (pl : Pl), vs = [.ref d, u] ∧ DAt H d N ∧ SAt H u pl ∧ (keys N).Nodup ∧ N.length ≤ 90000 ∧ (∀ p ∈ keys N, ∀ a ∈ p, PyData.strOk a = true) ∧ (∀ a ∈ pl, PyData.strOk a = true) ∧ ∀ H' d', Same H H' → H d' = none → DAt H' d' (gone N pl) → Q (.ref d') H'
def spLaid (n : Nat) : Sp := fun vs H Q _ => ∃ (d : Addr) (u v : V) (N : Nd) (pl : Pl) (t : T), vs = [.ref d, u, v] ∧ DAt H d N ∧ SAt H u pl ∧ TAt H t v ∧ t.deep ≤ n ∧ N.length + t.size ≤ 90000 ∧ pl.length + t.deep ≤ 100 ∧ ∀ H', But d H H' → DAt H' d (laid N pl t) → Q .non H'
theorem laidL_snoc (p : Pl) (k : T) : ∀ (ks : List T) (N : Nd), laidL N p (ks ++ [k]) = laid (laidL N p ks) (p ++ [k.lab]) k
  | [], N => by
    rw [List.nil_append]
    unfold laidL laidL
    rfl
  | x :: ks, N => by
    rw [List.cons_append]
    unfold laidL
    exact laidL_snoc p k ks _
theorem sizeL_take {ks : List T} {i : Nat} {k : T} (h : ks[i]? = some k) : sizeL (ks.take i) + k.size ≤ sizeL ks := by
  induction ks generalizing i with
  | nil => simp at h
  | cons x ks ih =>
    cases i with
    | zero =>
      rw [List.getElem?_cons_zero] at h
      cases h
      rw [List.take_zero]
      unfold sizeL
      unfold sizeL
      omega
    | succ i =>
      rw [List.getElem?_cons_succ] at h
      have := ih h
      rw [List.take_succ_cons]
      unfold sizeL
      omega
theorem nodup_val : ∀ {N : Nd} {p : Pl} {a b : List Str}, (keys N).Nodup → (p, a) ∈ N → (p, b) ∈ N → a = b
  | [], _, _, _, _, h, _ => by cases h
  | e :: N, p, a, b, hn, h1, h2 => by
    have hn : (e.1 :: keys N).Nodup := hn
    obtain ⟨n1, n2⟩ := List.nodup_cons.mp hn
    rcases List.mem_cons.mp h1 with h1 | h1 <;> rcases List.mem_cons.mp h2 with h2 | h2
    · rw [← h2] at h1
      exact (Prod.mk.inj h1).2
    · exact absurd (List.mem_map.mpr ⟨_, h2, by rw [← h1]⟩) n1
    · exact absurd (List.mem_map.mpr ⟨_, h1, by rw [← h2]⟩) n1
    · exact nodup_val n2 h1 h2
theorem nodup_map {α β : Type} {f : α → β} (hf : ∀ x y, f x = f y → x = y) : ∀ {l : List α}, l.Nodup → (l.map f).Nodup
  | [], _ => List.nodup_nil
  | a :: l, h => by
    obtain ⟨h1, h2⟩ := List.nodup_cons.mp h
    refine List.nodup_cons.mpr ⟨fun m => ?_, nodup_map hf h2⟩
    obtain ⟨b, hb, e⟩ := List.mem_map.mp m
    rw [← hf _ _ e] at h1
    exact h1 hb
theorem size_eq (t : T) : t.size = sizeL t.kids + 1 := by cases t; unfold T.size; rfl
theorem laidL_len (N : Nd) (p : Pl) (ks : List T) (w : List Str) (l : Str) : (laidL (put N p w) p ks).length ≤ N.length + (sizeL ks + 1) := by
  have h := laid_len (.mk l w ks) N p
  rw [laid_eq, size_eq] at h
  exact h
abbrev sc_law_placeS : Stmt := (top 38)
abbrev sc_law_placeN : List Str := ["_law_nodes_here", "_law_cell", "_law_some", "_law_place_here"]
abbrev sc_law_placeP : List Str := ["_law_nodes_here", "_law_cell"]
theorem sc_law_place : FnScope sc_law_placeN sc_law_placeP (defScope sc_law_placeS) := ⟨rfl, rfl, rfl, by decide +kernel, rfl, by decide +kernel, by decide +kernel⟩
abbrev sc_law_goneS : Stmt := (top 41)
abbrev sc_law_goneN : List Str := ["_law_nodes_here", "_law_place_here", "_law_other"]
abbrev sc_law_goneP : List Str := ["_law_nodes_here", "_law_place_here"]
theorem sc_law_gone : FnScope sc_law_goneN sc_law_goneP (defScope sc_law_goneS) := ⟨rfl, rfl, rfl, by decide +kernel, rfl, by decide +kernel, by decide +kernel⟩
abbrev sc_law_laidS : Stmt := (top 40)
abbrev sc_law_laidN : List Str := ["_law_nodes_here", "_law_place_here", "_law_node", "_law_kid_here"]
abbrev sc_law_laidP : List Str := ["_law_nodes_here", "_law_place_here", "_law_node"]
theorem sc_law_laid : FnScope sc_law_laidN sc_law_laidP (defScope sc_law_laidS) := ⟨rfl, rfl, rfl, by decide +kernel, rfl, by decide +kernel, by decide +kernel⟩
section
variable {P : Program} {w : World} {K : PySem.W.Frag} {mg : Str → Option Value} {base : Heap}
theorem ok_law_place {f : Addr} {fd : FuncData} (D : DefAt K mg "_law_place" sc_law_placeS f fd) (B : Bt mg) (C_law_label : CallOk P w K mg base 1 "_law_label" sc_law_labelP spLab) : CallOk P w K mg base 2 "_law_place" sc_law_placeP spPlace := by
  refine D.call sc_law_place (fun vs H Q E h => ?_) (fun _ _ _ _ _ _ us hl => match us, hl with | [_, _], _ => rfl) (fun cdv A outer s H vs Q E hr h => ?_)
  · obtain ⟨_, _, _, rfl, _⟩ := h
    rfl
  refine ⟨_, (pss_cons (ps_set (i := 2) sc_law_place.nd rfl (Or.inl rfl) (pe_callTy (call_list_dT rfl) (by rfl) B.list (by decide +kernel) (pa_cons (pv 0) pa_nil))) (pss_cons (ps_set (i := 3) sc_law_place.nd rfl (Or.inl rfl) (pe_ix (r := rIxL K) ix_list (pv 2) (pe_op op_mod (pe_op op_add (pe_op op_fdiv (pv 1) pe_int) (pe_op op_mul (pe_op op_mod (pv 1) pe_int) pe_int)) (pe_callB (r := Evl.rLenS K) call_len_seq (by rfl) B.len PySem.boot_len (pa_cons (pv 2) pa_nil))) (fun _ _ => rfl))) (pss_cons (ps_if (pt_cmpR op_eq (pe_op op_mod (pv 1) pe_int) pe_int (nomark _)) (pss_one (ps_ret (pe_op (r := rCatA K) op_catA (pe_slice (r := rSlA K) sl_tupA (pv 3) po_none (po_some (pe_un un_neg pe_int))) (pe_tup (pa_cons (pe_cal C_law_label hr (by decide) rfl (pa_cons (pe_op op_fdiv (pv 1) pe_int) pa_nil)) pa_nil))))) pss_nil) (pss_cons (ps_if (PW.pt (pw_and (pt_cmpR op_eq (pe_op op_mod (pv 1) pe_int) pe_int (nomark _)) (pw_and1 (pt_cmpR op_lt (pe_callB (r := Evl.rLenS K) call_len_seq (by rfl) B.len PySem.boot_len (pa_cons (pv 3) pa_nil)) pe_int (nomark _))))) (pss_one (ps_ret (pe_op (r := rCatA K) op_catA (pv 3) (pe_tup (pa_cons (pe_cal C_law_label hr (by decide) rfl (pa_cons (pe_op op_fdiv (pv 1) pe_int) pa_nil)) pa_nil))))) pss_nil) (pss_one (ps_ret (pv 3))))))), ?_⟩
  obtain ⟨d, n, N, rfl, ⟨kvs, hd, hkv⟩, W, q⟩ := h
  refine ⟨_, rfl, d, kvs, rfl, .inl hd, fun L bs hL hbs => ?_⟩
  have hlen : bs.length = N.length := by rw [← hbs.length, kv_len hkv]
  have hne : 0 < bs.length := by
    rw [hlen]
    have := W.root
    cases N with
    | nil => cases this
    | cons => exact Nat.succ_pos _
  have hn := Int.emod_nonneg n (by decide : (4 : Int) ≠ 0)
  have hn2 := Int.emod_lt_of_pos n (by decide : (0 : Int) < 4)
  obtain ⟨y, hy, ey⟩ := atI_mod (bs.map V.ref) (n / 4 + n % 4 * 3) ((bs.map V.ref).length : Nat) rfl (by rw [List.length_map]; omega)
  obtain ⟨b, hb, rfl⟩ := List.mem_map.mp hy
  obtain ⟨kv, hkm, hbt⟩ := (paired_mem hbs).2 b hb
  obtain ⟨e, hem, hek⟩ := (paired_mem hkv).1 kv hkm
  have hbt : H b = some (.tup (e.1.map V.str)) := by rw [hbt, hek.1, kk_v]
  have hpk : e.1 ∈ keys N := List.mem_map.mpr ⟨e, hem, rfl⟩
  have lp := W.len _ hpk
  have labs := W.labs _ hpk
  generalize e.1 = p at hbt hpk lp labs
  have s1 : Same H (upd H L (.lst (bs.map V.ref))) := Same.new hL
  have hbt1 := s1 _ _ hbt
  refine ⟨_, rfl, _, rfl, _, _, rfl, rfl, ⟨by decide, by decide⟩, _, rfl, _, _, rfl, rfl, (by show (0 : Int) < 4; decide), _, _, rfl, rfl, .inr ⟨by decide, by decide⟩, _, _, rfl, rfl, _, rfl, L, _, rfl, .inl (SqL.of upd_same), _, _, rfl, rfl, (by show (0 : Int) < ((bs.map V.ref).length : Nat); rw [List.length_map]; omega), L, _, _, _, rfl, rfl, SqL.of upd_same, ey, ?_⟩
  refine ⟨_, rfl, _, _, rfl, rfl, (by show (0 : Int) < 4; decide), rfl, _, rfl, ?_⟩
  refine ite2 (fun c => ?_) (fun c => ?_)
  · refine ⟨_, rfl, _, rfl, _, rfl, sl_init hbt1 fun H2 x2 s2 hx2 => ⟨_, rfl, _, _, rfl, rfl, ⟨by decide, by decide⟩, _, rfl, fun H3 l s3 hl => ⟨(by show 1 ≤ sizeLine; decide), fun t ht => ?_⟩⟩⟩
    obtain ⟨xa, rfl, hxa⟩ := hx2
    have s4 := s3.trans (Same.new (o := .tup [.str l]) ht)
    have hdl : p.dropLast.length ≤ 7 := by rw [List.length_dropLast]; omega
    refine catP (s4 _ _ hxa) upd_same (by omega) fun H4 x s5 hx => q H4 x _ (s1.trans (s2.trans (s4.trans s5))) hx ⟨?_, fun a ha => ?_⟩
    · rw [List.length_append]
      show _ + 1 ≤ 8
      omega
    · rcases List.mem_append.mp ha with ha | ha
      · exact labs a ((List.dropLast_sublist p).subset ha)
      · rw [List.mem_singleton.mp ha]
        exact hl
  · have last : ∀ G, Same (upd H L (.lst (bs.map V.ref))) G → Q (.ref b) G := fun G s => q G _ p (s1.trans s) ⟨b, rfl, s _ _ hbt1⟩ ⟨lp, labs⟩
    refine ⟨_, rfl, _, _, rfl, rfl, (by show (0 : Int) < 16; decide), rfl, _, rfl, ?_⟩
    refine ite2 (fun c2 => ?_) (fun c2 => ⟨_, rfl, last _ (Same.refl _)⟩)
    refine ⟨_, rfl, b, _, rfl, .inr (SqT.of hbt1), _, _, rfl, rfl, _, rfl, ?_⟩
    refine ite2 (fun c3 => ?_) (fun c3 => ⟨_, rfl, last _ (Same.refl _)⟩)
    have c3 : ((p.map V.str).length : Int) < 8 := of_decide_eq_true c3
    rw [List.length_map] at c3
    refine ⟨_, rfl, _, rfl, _, _, rfl, rfl, ⟨by decide, by decide⟩, _, rfl, fun H3 l s3 hl => ⟨(by show 1 ≤ sizeLine; decide), fun t ht => ?_⟩⟩
    have s4 := s3.trans (Same.new (o := .tup [.str l]) ht)
    refine catP (s4 _ _ hbt1) upd_same (by omega) fun H4 x s5 hx => q H4 x _ (s1.trans (s4.trans s5)) hx ⟨?_, fun a ha => ?_⟩
    · rw [List.length_append]
      show _ + 1 ≤ 8
      omega
    · rcases List.mem_append.mp ha with ha | ha
      · exact labs a ha
      · rw [List.mem_singleton.mp ha]
        exact hl
theorem ok_law_gone {f : Addr} {fd : FuncData} (D : DefAt K mg "_law_gone" sc_law_goneS f fd) (B : Bt mg) : CallOk P w K mg base 1 "_law_gone" sc_law_goneP spGone := by
  refine D.call sc_law_gone (fun vs H Q E h => ?_) (fun _ _ _ _ _ _ us hl => match us, hl with | [_, _], _ => rfl) (fun cdv A outer s H vs Q E hr h => ?_)
  · obtain ⟨_, _, _, _, rfl, _⟩ := h
    rfl
  have hu := hu_of hr
  have hu2 := hu2_of hr
  have hu64 := hr.units
  refine ⟨_, (pss_one (ps_ret (pe_callTy (call_dictT rfl hu2) (by rfl) B.dict (by decide +kernel) (pa_cons (pe_lock (pe_lc (own := [("_law_other", 2)]) (g := gName 2) rfl sc_law_gone.nd (pi_keys (pv 0)) (blkOk_by (N := sc_law_goneN) (sc := defScope sc_law_goneS) (by decide +kernel)) (fun _ _ _ _ _ => pg_name (i := 2) sc_law_gone.nd rfl (Or.inl rfl)) (fun _ _ _ _ _ => (pts_one (pt_cmpR (r := rNeD K) (op_neD hu64) (pe_slice (r := rSlA K) sl_tupA (pv 2) po_none (po_some (pe_callB (r := Evl.rLenS K) call_len_seq (by rfl) B.len PySem.boot_len (pa_cons (pv 1) pa_nil)))) (pv 1) (nomark _)))) (fun _ _ _ _ _ => (pe_tup (pa_cons (pv 2) (pa_cons (pe_dget hu (pv 0) (pv 2) (fun _ _ => rfl)) pa_nil)))))) pa_nil)))), ?_⟩
  obtain ⟨d, u, N, pl, rfl, ⟨kvs, hd, hkv⟩, ⟨ua, rfl, hua⟩, hnd, hN, lN, lp, q⟩ := h
  refine ⟨d, .dT kvs, hd, True.intro, fun od => ?_⟩
  have tkF : TupK H (upd H d (.frz od (.dT kvs))) := .put hd fun _ z => by cases z
  generalize hF : upd H d (.frz od (.dT kvs)) = Hf at tkF ⊢
  have hdF : Hf d = some (.frz od (.dT kvs)) := by rw [← hF]; exact upd_same
  have hkF : KvOk Hf kvs N := hkv.keep tkF
  refine ⟨_, rfl, d, od, rfl, .inr ⟨kvs, hdF, fun L hL => lc_keysT (fun i H' => Same Hf H' ∧ ∃ vs kv', H' L = some (.lst vs) ∧ PairsAt H' vs kv' ∧ KvOk H' kv' (gone (N.take i) pl)) ⟨Same.new hL, [], [], upd_same, .nil, .nil⟩ (fun i H' _ s => s.1 _ _ hdF) ?_ ?_⟩⟩
  · rintro i k v r H' hi hr1 ⟨s1, vs, kv', hl, hpv, hkv'⟩
    obtain ⟨p, ws, hNi, rfl, hvs⟩ := kv_at hkF hi
    rw [kk_v] at hr1
    have hpk : p ∈ keys N := List.mem_map.mpr ⟨(p, ws), List.mem_of_getElem? hNi, rfl⟩
    have step : gone (N.take (i + 1)) pl = gone (N.take i) pl ++ (if p.take pl.length ≠ pl then [(p, ws)] else []) := by
      unfold gone
      rw [take_succ hNi, List.filter_append]
      congr 1
      by_cases c : p.take pl.length = pl <;> simp [c]
    have hvl : vs.length < sizeLine := Evl.sz_lt (by
      have a1 := hpv.length
      have a2 := hkv'.length
      have a3 : (gone (N.take i) pl).length ≤ (N.take i).length := List.length_filter_le _ _
      have a4 := List.length_take_le' i N
      omega)
    refine ⟨rfl, _, rfl, _, rfl, ua, _, rfl, .inr (SqT.of (s1 _ _ (tkF _ _ hua))), _, rfl, ?_⟩
    rw [List.length_map]
    refine sl_take hr1 fun H2 x2 s2 hx2 => ⟨_, rfl, neP hx2 ⟨ua, rfl, s2 _ _ (s1 _ _ (tkF _ _ hua))⟩ (fun a ha => lN p hpk a (List.mem_of_mem_take ha)) lp ⟨_, rfl, ?_⟩⟩
    by_cases c : p.take pl.length = pl
    · rw [decide_eq_true c]
      refine iteF ⟨s1.trans s2, vs, kv', s2 _ _ hl, Paired.mono (fun x kv h => ?_) hpv, ?_⟩
      · obtain ⟨t, b, h1, h2, h3⟩ := h
        exact ⟨t, b, h1, s2 _ _ h2, s2 _ _ h3⟩
      · rw [step, if_neg (fun z => z c), List.append_nil]
        exact hkv'.keep (.of s2)
    · rw [decide_eq_false c]
      have s12 := s1.trans s2
      have hkN : lk N p = some ws := by
        obtain ⟨ws', e⟩ := Option.isSome_iff_exists.mp (lk_mem.mpr hpk)
        have h2 := lk_in e
        have := nodup_val hnd (List.mem_of_getElem? hNi) h2
        rw [this]
        exact e
      obtain ⟨v2, hg, hv2⟩ := dget_frz (s12 _ _ hdF) (hkF.keep (.of s12)) (s2 _ _ hr1) hkN
      refine iteT ⟨_, rfl, _, rfl, _, rfl, d, v2, rfl, hg, (by show 2 ≤ sizeLine; decide), fun t ht => ?_⟩
      have s3 : Same H2 (upd H2 t (.tup [.ref r, v2])) := Same.new ht
      have hlt := s3 _ _ (s2 _ _ hl)
      have tk : TupK (upd H2 t (.tup [.ref r, v2])) (upd (upd H2 t (.tup [.ref r, v2])) L (.lst (vs ++ [.ref t]))) := .put hlt fun _ z => by cases z
      refine ⟨vs, hlt, hvl, Same.put hL (s12.trans s3), _, kv' ++ [(kk p, v2)], upd_same, pair_app (.cons ⟨t, r, rfl, tk _ _ upd_same, tk _ _ (by rw [kk_v]; exact s3 _ _ (s2 _ _ hr1))⟩ .nil) (Paired.mono (fun x kv h => ?_) hpv), ?_⟩
      · obtain ⟨t, b, h1, h2, h3⟩ := h
        exact ⟨t, b, h1, tk _ _ (s3 _ _ (s2 _ _ h2)), tk _ _ (s3 _ _ (s2 _ _ h3))⟩
      · rw [step, if_pos c]
        exact pair_app (.cons ⟨rfl, (hv2.keep (.of s3)).keep tk⟩ .nil) (((hkv'.keep (.of s2)).keep (.of s3)).keep tk)
  · rintro H' ⟨s1, vs, kv', hl, hpv, hkv'⟩
    have e : N.take kvs.length = N := List.take_of_length_le (by rw [kv_len hkv]; exact Nat.le_refl _)
    rw [e] at hkv'
    have dL : d ≠ L := ne_of_none hdF hL
    have tk : TupK H' (upd H' d (.dT kvs)) := .put (s1 _ _ hdF) fun _ z => by cases z
    have s2 : Same H (upd H' d (.dT kvs)) := fun b o hb => by
      by_cases z : b = d
      · rw [z, hd] at hb
        rw [z, upd_same]
        exact hb
      · rw [upd_ne z]
        refine s1 _ _ ?_
        rw [← hF, upd_ne z]
        exact hb
    refine ⟨s1 _ _ hdF, L, vs, kv', rfl, SqL.of (by rw [upd_ne (Ne.symm dL)]; exact hl), Paired.mono (fun x kv h => ?_) hpv, ?_, fun d' hd' => ?_⟩
    · obtain ⟨t, b, h1, h2, h3⟩ := h
      exact ⟨t, b, h1, tk _ _ h2, tk _ _ h3⟩
    · have e2 : kv'.map (·.1) = (keys (gone N pl)).map kk := by
        show _ = List.map kk (List.map (·.1) (gone N pl))
        rw [List.map_map]
        exact paired_map (fun a b h => h.1) hkv'
      rw [e2]
      exact nodup_map (fun x y z => kk_inj.mp z) (((List.filter_sublist (l := N)).map _).nodup hnd)
    · exact q _ d' (s2.trans (Same.new hd')) (s2.free hd') ⟨kv', upd_same, (hkv'.keep tk).keep (.new hd')⟩
theorem ok_law_laid_step {f : Addr} {fd : FuncData} {n : Nat} (D : DefAt K mg "_law_laid" sc_law_laidS f fd) (C_law_laid : CallOk P w K mg base (n + 1) "_law_laid" sc_law_laidP (spLaid n)) : CallOk P w K mg base (n + 2) "_law_laid" sc_law_laidP (spLaid (n + 1)) := by
  refine D.call sc_law_laid (fun vs H Q E h => ?_) (fun _ _ _ _ _ _ us hl => match us, hl with | [_, _, _], _ => rfl) (fun cdv A outer s H vs Q E hr h => ?_)
  · obtain ⟨_, _, _, _, _, _, rfl, _⟩ := h
    rfl
  have hu := hu_of hr
  refine ⟨_, (pss_cons (ps_dput hu (pv 0) (pv 1) (pe_ix (r := rIxT K) ix_tup (pv 2) pe_int (fun _ _ => rfl)) rfl) (pss_one (ps_for PassesOwn.never rfl (pi_tup (pe_ix (r := rIxT K) ix_tup (pv 2) pe_int (fun _ _ => rfl))) (pg_name (i := 3) sc_law_laid.nd rfl (Or.inl rfl)) (pss_one (ps_expr (pe_cal C_law_laid hr (Nat.le_refl _) rfl (pa_cons (pv 0) (pa_cons (pe_op (r := rCatA K) op_catA (pv 1) (pe_tup (pa_cons (pe_ix (r := rIxT K) ix_tup (pv 3) pe_int (fun _ _ => rfl)) pa_nil))) (pa_cons (pv 3) pa_nil))))))))), ?_⟩
  obtain ⟨d, u, v, N, pl, t, rfl, hD, ⟨ua, rfl, hua⟩, ht, hn, hsz, hdp, q⟩ := h
  have ht0 := ht
  obtain ⟨a, w1, k, vs, rfl, h1, h2, h3, h4⟩ := ht.parts
  obtain ⟨H1, hput, hD1, o, rfl⟩ := dput_of hD hua h2 (Evl.sz_lt (by have := size_eq t; omega))
  refine ⟨_, rfl, _, _, _, _, rfl, rfl, SqT.of h1, atI_nat (j := 1) rfl, _, rfl, _, rfl, d, _, rfl, hput, ?_⟩
  have tk1 : TupK H (upd H d o) := by
    obtain ⟨kvs, hd, _⟩ := hD
    exact .put hd fun _ z => by cases z
  refine ⟨_, rfl, _, _, _, _, rfl, rfl, SqT.of (tk1 _ _ h1), atI_nat (j := 2) rfl, _, rfl, ⟨_, SqT.of (tk1 _ _ h3)⟩, for_tup (xs := vs) (fun i σ H' => But d H H' ∧ TupK H H' ∧ (∃ o4, σ = [some (.ref d), some (.ref ua), some (.ref a), o4]) ∧ DAt H' d (laidL (put N pl t.wds) pl (t.kids.take i))) ⟨But.upd, tk1, ⟨_, rfl⟩, hD1⟩ (fun i σ H' _ p => SqT.of (p.2.1 _ _ h3)) ?_ ?_⟩
  · rintro i x σ H' hi ⟨b1, tk, ⟨o4, rfl⟩, hD'⟩
    obtain ⟨kd, hk, ak⟩ := h4.get hi
    have hm := List.mem_of_getElem? hk
    have ak' := ak.keep tk
    have hkd := deep_kid hm
    have hs := sizeL_take hk
    have hl := laidL_len N pl (t.kids.take i) t.wds t.lab
    have hst := size_eq t
    have ak0 := ak'
    obtain ⟨c, w2, k2, us2, rfl, e1, e2, e3, e4⟩ := ak'.parts
    refine ⟨_, rfl, _, rfl, _, rfl, _, _, _, _, rfl, rfl, SqT.of e1, atI_nat (j := 0) rfl, (by show 1 ≤ sizeLine; decide), fun p hp => catP ((Same.new hp) _ _ (tk _ _ hua)) upd_same (by omega) fun H2 x2 s2 hx2 => ?_⟩
    have s3 : Same H' H2 := (Same.new hp).trans s2
    refine ⟨_, rfl, d, x2, _, _, _, kd, rfl, hD'.same s3, hx2, ak0.keep (.of s3), by omega, by omega, by rw [List.length_append]; show _ + 1 + _ ≤ 100; omega, fun H3 b3 hD3 => ?_⟩
    have hd2 := hD'.same s3
    obtain ⟨kv2, q2, _⟩ := hd2
    refine ⟨b1.trans ((But.of s3).trans b3), (tk.trans (.of s3)).trans (b3.tup q2 fun _ z => by cases z), ⟨_, rfl⟩, ?_⟩
    rw [take_succ hk, laidL_snoc]
    exact hD3
  · rintro σ H' ⟨b1, tk, ⟨o4, rfl⟩, hD'⟩
    rw [h4.len, List.take_length] at hD'
    refine q H' b1 ?_
    rw [laid_eq]
    exact hD'
end
end Cm
end

section
/-! The law's nodes to be put in, and what it draws. -/
namespace Cm
open PySem PySem.Spec PyProof.Rows L2 LamX
def spLKid (K : PySem.W.Frag) (T : List (Addr × Str)) : Sp := fun vs H Q _ => ∃ (a : Addr) (n : Int) (ns : List Int), vs = [.ref a, .int n] ∧ SqL K H a (ns.map V.int) ∧ ns.length ≤ 4 ∧ Tabs T H ∧ ∀ H' x t, ExtN H H' → Tabs T H' → TAt H' t x → NdOk t → Q x H'
def spRow : Sp := fun vs H Q _ => ∃ n : Int, vs = [.int n] ∧ ∀ H' x t, Same H H' → TAt H' t x → NdOk t → Q x H'
def Dr.word : Dr → Str
  | .read _ _ => "read"
  | .put _ _ => "put"
  | .out _ => "out"
def OneAt (H : Hp) (d : Dr) (x : V) : Prop := ∃ (a : Addr) (u y : V), x = .ref a ∧ H a = some (.tup [.str d.word, u, y]) ∧ SAt H u d.pl ∧ argAt H d y
theorem OneAt.keep {H H' : Hp} {d : Dr} {x : V} (k : TupK H H') (h : OneAt H d x) : OneAt H' d x := by
  obtain ⟨a, u, y, rfl, h1, h2, h3⟩ := h
  exact ⟨a, u, y, rfl, k _ _ h1, h2.keep k, h3.keep k⟩
def spDrawn (K : PySem.W.Frag) (T : List (Addr × Str)) : Sp := fun vs H Q _ => ∃ (a d : Addr) (k : Nat) (ns : List Int) (N : Nd), vs = [.ref a, .int (k : Int), .ref d] ∧ SqL K H a (ns.map V.int) ∧ k < ns.length ∧ DAt H d N ∧ WfN N ∧ Tabs T H ∧
  ∀ H' x dr, ExtN H H' → Tabs T H' → OneAt H' dr x → dr.Ok → Q x H'
theorem lab1 : IsLab ("1" : Str) := ⟨1, [], by decide, by decide, by decide, by decide +kernel⟩
theorem lab2 : IsLab ("2b" : Str) := ⟨2, [98], by decide, by decide, by decide, by decide +kernel⟩
theorem deepL_one (t : T) : deepL [t] = t.deep := Nat.le_antisymm (deepL_of fun k hk => by rw [List.mem_singleton.mp hk]; exact Nat.le_refl _) (deepL_le List.mem_cons_self)
theorem sizeL_one (t : T) : sizeL [t] = t.size := by
  unfold sizeL sizeL
  omega
/-- a table cut to its short places -/
theorem wfN_few {N M : Nd} (W : WfN N) (h1 : ∀ p, p ∈ keys M ↔ p ∈ keys N ∧ p.length < 3) (h2 : (keys M).Nodup) (h3 : ∀ e ∈ M, WsOk e.2) : WfN M :=
  ⟨h2, (h1 _).mpr ⟨W.root, by decide⟩, fun p a h => by
    obtain ⟨a1, a2⟩ := (h1 _).mp h
    rw [List.length_append] at a2
    exact (h1 _).mpr ⟨W.pre p a a1, by omega⟩, fun p h => by have := ((h1 p).mp h).2; omega, fun p h => W.labs p ((h1 p).mp h).1, fun e he => h3 e he⟩
abbrev sc_law_kidS : Stmt := (top 39)
abbrev sc_law_kidN : List Str := ["_law_cells", "_law_cell", "_law_nodes_here", "_law_few", "_law_place_here", "_law_tree_here"]
abbrev sc_law_kidP : List Str := ["_law_cells", "_law_cell"]
theorem sc_law_kid : FnScope sc_law_kidN sc_law_kidP (defScope sc_law_kidS) := ⟨rfl, rfl, rfl, by decide +kernel, rfl, by decide +kernel, by decide +kernel⟩
abbrev sc_law_row_of_nodesS : Stmt := (top 48)
abbrev sc_law_row_of_nodesN : List Str := ["_law_cell", "_law_node", "_law_k"]
abbrev sc_law_row_of_nodesP : List Str := ["_law_cell"]
theorem sc_law_row_of_nodes : FnScope sc_law_row_of_nodesN sc_law_row_of_nodesP (defScope sc_law_row_of_nodesS) := ⟨rfl, rfl, rfl, by decide +kernel, rfl, by decide +kernel, by decide +kernel⟩
abbrev sc_law_drawnS : Stmt := (top 49)
abbrev sc_law_drawnN : List Str := ["_law_script", "_law_k", "_law_nodes_here", "_law_cell", "_law_place_here", "_law_node"]
abbrev sc_law_drawnP : List Str := ["_law_script", "_law_k", "_law_nodes_here"]
theorem sc_law_drawn : FnScope sc_law_drawnN sc_law_drawnP (defScope sc_law_drawnS) := ⟨rfl, rfl, rfl, by decide +kernel, rfl, by decide +kernel, by decide +kernel⟩
section
variable {P : Program} {w : World} {K : PySem.W.Frag} {mg : Str → Option Value} {base : Heap}
theorem ok_law_row {f : Addr} {fd : FuncData} (D : DefAt K mg "_law_row_of_nodes" sc_law_row_of_nodesS f fd) (B : Bt mg) (C_law_label : CallOk P w K mg base 1 "_law_label" sc_law_labelP spLab) : CallOk P w K mg base 2 "_law_row_of_nodes" sc_law_row_of_nodesP spRow := by
  refine D.call sc_law_row_of_nodes (fun vs H Q E h => ?_) (fun _ _ _ _ _ _ us hl => match us, hl with | [_], _ => rfl) (fun cdv A outer s H vs Q E hr h => ?_)
  · obtain ⟨_, rfl, _⟩ := h
    rfl
  refine ⟨_, (pss_cons (ps_set (i := 1) sc_law_row_of_nodes.nd rfl (Or.inl rfl) (pe_tup (pa_cons (pe_cal C_law_label hr (by decide) rfl (pa_cons (pv 0) pa_nil)) (pa_cons (pe_tup (pa_cons pe_str pa_nil)) (pa_cons (pe_tup pa_nil) pa_nil))))) (pss_cons (ps_for PassesOwn.never rfl (pi_range1 rfl B.range (pa_cons (pe_op op_add pe_int (pe_op op_mod (pe_op op_fdiv (pv 0) pe_int) pe_int)) pa_nil)) (pg_name (i := 2) sc_law_row_of_nodes.nd rfl (Or.inl rfl)) (pss_one (ps_set (i := 1) sc_law_row_of_nodes.nd rfl (Or.inl rfl) (pe_tup (pa_cons (pe_ix (r := rIxL K) ix_list (pe_lst (pa_cons pe_str (pa_cons pe_str pa_nil))) (pe_op op_mod (pv 2) pe_int) (fun _ _ => rfl)) (pa_cons (pe_tup pa_nil) (pa_cons (pe_tup (pa_cons (pv 1) pa_nil)) pa_nil))))))) (pss_one (ps_ret (pv 1))))), ?_⟩
  obtain ⟨n, rfl, q⟩ := h
  have m1 := Int.emod_nonneg (n / 3) (by decide : (7 : Int) ≠ 0)
  have m2 := Int.emod_lt_of_pos (n / 3) (by decide : (0 : Int) < 7)
  refine ⟨_, rfl, n, rfl, fun H1 l s1 hl => ⟨(by show 1 ≤ sizeLine; decide), fun p1 hp1 => ⟨Nat.zero_le _, fun p2 hp2 => ⟨(by show 3 ≤ sizeLine; decide), fun p3 hp3 => ?_⟩⟩⟩⟩
  have s2 := (Same.new (o := .tup []) hp2).trans (Same.new (o := .tup [.str l, .ref p1, .ref p2]) hp3)
  have t0 : TAt (upd (upd (upd H1 p1 (.tup [.str "a"])) p2 (.tup [])) p3 (.tup [.str l, .ref p1, .ref p2])) (.mk l [("a" : Str)] []) (.ref p3) := .mk upd_same (s2 _ _ upd_same) ((Same.new hp3) _ _ upd_same) (tsAt_nil.mpr rfl)
  have s3 : Same H _ := (s1.trans (Same.new (o := .tup [.str "a"]) hp1)).trans s2
  generalize upd (upd (upd H1 p1 (.tup [.str "a"])) p2 (.tup [])) p3 (.tup [.str l, .ref p1, .ref p2]) = H3 at t0 s3 ⊢
  refine ⟨_, rfl, _, _, rfl, rfl, ⟨by decide, by decide⟩, _, _, rfl, rfl, (by show (0 : Int) < 7; decide), _, _, rfl, rfl, _, rfl, by show -(2 ^ 62) ≤ 1 + n / 3 % 7; omega, by show 1 + n / 3 % 7 < 2 ^ 62; omega, for_range (lo := 0) (n := (1 + n / 3 % 7).toNat) (fun i σ H' => Same H H' ∧ ∃ v o t, σ = [some (.int n), some v, o] ∧ TAt H' t v ∧ Wf t ∧ IsLab t.lab ∧ t.deep = 1 + i ∧ Wd 1 t ∧ t.size = 1 + i)
    ⟨s3, _, _, _, rfl, t0, .mk (fun k h => by cases h) (fun k h => by cases h) .nil (fun w hw => by rw [List.mem_singleton.mp hw]; decide +kernel), hl, rfl, .mk (Nat.zero_le _) (fun k h => by cases h), rfl⟩ ?_ ?_⟩
  · rintro i σ H' hi ⟨s4, v, o, t, rfl, ht, hw, hlt, hd, hwd, hsz⟩
    refine ⟨(by show 2 ≤ sizeLine; decide), fun L hL => ?_⟩
    obtain ⟨x, hx, ex⟩ := atI_mod [V.str "1", .str "2b"] (0 + (i : Int)) 2 rfl (by decide)
    have hm : ∃ m : Str, x = .str m ∧ IsLab m := by
      simp only [List.mem_cons, List.not_mem_nil, or_false] at hx
      rcases hx with rfl | rfl
      · exact ⟨_, rfl, lab1⟩
      · exact ⟨_, rfl, lab2⟩
    obtain ⟨m, rfl, hm⟩ := hm
    refine ⟨_, rfl, _, _, rfl, rfl, (by show (0 : Int) < 2; decide), L, _, _, _, rfl, rfl, SqL.of upd_same, ex, Nat.zero_le _, fun q1 hq1 => ⟨_, rfl, (by show 1 ≤ sizeLine; decide), fun q2 hq2 => ⟨(by show 3 ≤ sizeLine; decide), fun q3 hq3 => ?_⟩⟩⟩
    have a1 := Same.new (o := .lst [V.str "1", .str "2b"]) hL
    have a2 := Same.new (o := .tup []) hq1
    have a3 := Same.new (o := .tup [v]) hq2
    have a4 := Same.new (o := .tup [.str m, .ref q1, .ref q2]) hq3
    have a := ((a1.trans a2).trans a3).trans a4
    refine ⟨s4.trans a, _, _, .mk m [] [t], rfl, .mk upd_same ((a3.trans a4) _ _ upd_same) (a4 _ _ upd_same) (.one (ht.keep (.of a))), ?_, hm, ?_, ?_, ?_⟩
    · refine .mk (fun k h => ?_) (fun k h => ?_) (List.pairwise_singleton _ _) (fun w h => by cases h)
      · rw [List.mem_singleton.mp h]
        exact hw
      · rw [List.mem_singleton.mp h]
        exact hlt
    · rw [T.deep_eq]
      show deepL [t] + 1 = _
      rw [deepL_one, hd]
      omega
    · refine .mk (Nat.le_refl _) fun k h => ?_
      rw [List.mem_singleton.mp h]
      exact hwd
    · rw [size_eq]
      show sizeL [t] + 1 = _
      rw [sizeL_one, hsz]
      omega
  · rintro σ H' ⟨s4, v, o, t, rfl, ht, hw, hlt, hd, hwd, hsz⟩
    exact ⟨_, rfl, q _ _ t s4 ht ⟨hw, hlt, by omega, hwd.mono (by decide) t, by omega⟩⟩
theorem ok_law_kid {f : Addr} {fd : FuncData} {T : List (Addr × Str)} (D : DefAt K mg "_law_kid" sc_law_kidS f fd) (B : Bt mg) (C_law_nodes : CallOk P w K mg base 3 "_law_nodes" sc_law_nodesP (spNodes K)) (C_law_label : CallOk P w K mg base 1 "_law_label" sc_law_labelP spLab)
    (C_law_tree : CallOk P w K mg base 14 "_law_tree" sc_law_treeP (spTree K T 9)) : CallOk P w K mg base 15 "_law_kid" sc_law_kidP (spLKid K T) := by
  refine D.call sc_law_kid (fun vs H Q E h => ?_) (fun _ _ _ _ _ _ us hl => match us, hl with | [_, _], _ => rfl) (fun cdv A outer s H vs Q E hr h => ?_)
  · obtain ⟨_, _, _, rfl, _⟩ := h
    rfl
  have hu := hu_of hr
  refine ⟨_, (pss_cons (ps_set (i := 2) sc_law_kid.nd rfl (Or.inl rfl) (pe_cal C_law_nodes hr (by decide) rfl (pa_cons (pv 0) pa_nil))) (pss_cons (ps_set (i := 3) sc_law_kid.nd rfl (Or.inl rfl) pe_dnewT) (pss_cons (ps_lock (ps_for PassesOwn.never rfl (pi_keys (pv 2)) (pg_name (i := 4) sc_law_kid.nd rfl (Or.inl rfl)) (pss_one (ps_if (pt_cmpR op_lt (pe_callB (r := Evl.rLenS K) call_len_seq (by rfl) B.len PySem.boot_len (pa_cons (pv 4) pa_nil)) pe_int (nomark _)) (pss_one (ps_dput hu (pv 3) (pv 4) (pe_dget hu (pv 2) (pv 4) (fun _ _ => rfl)) rfl)) pss_nil)))) (pss_cons (ps_set (i := 5) sc_law_kid.nd rfl (Or.inl rfl) (pe_cal C_law_tree hr (by decide) rfl (pa_cons (pv 3) (pa_cons (pe_tup pa_nil) pa_nil)))) (pss_one (ps_ret (pe_tup (pa_cons (pe_cal C_law_label hr (by decide) rfl (pa_cons (pv 1) pa_nil)) (pa_cons (pe_ix (r := rIxT K) ix_tup (pv 5) pe_int (fun _ _ => rfl)) (pa_cons (pe_ix (r := rIxT K) ix_tup (pv 5) pe_int (fun _ _ => rfl)) pa_nil)))))))))), ?_⟩
  obtain ⟨a, n, ns, rfl, hS, hns, hT, q⟩ := h
  refine ⟨_, rfl, a, ns, rfl, hS, by omega, fun H1 d1 N s1 hd1 hD1 W hN => ?_⟩
  obtain ⟨kvs, hd, hkv⟩ := hD1
  refine fun d2 hd2 => ?_
  have d12 : d1 ≠ d2 := ne_of_none hd hd2
  have s2 : Same H1 (upd H1 d2 (.dT [])) := Same.new hd2
  have hdd := s2 _ _ hd
  refine ⟨d1, .dT kvs, hdd, True.intro, fun od => ?_⟩
  have tkF : TupK (upd H1 d2 (.dT [])) (upd (upd H1 d2 (.dT [])) d1 (.frz od (.dT kvs))) := .put hdd fun _ z => by cases z
  have e2 : upd (upd H1 d2 (.dT [])) d1 (.frz od (.dT kvs)) d2 = some (.dT []) := by
    rw [upd_ne (Ne.symm d12)]
    exact upd_same
  have e1 : upd (upd H1 d2 (.dT [])) d1 (.frz od (.dT kvs)) d1 = some (.frz od (.dT kvs)) := upd_same
  have sF : Same H (upd (upd H1 d2 (.dT [])) d1 (.frz od (.dT kvs))) := Same.put hd1 (s1.trans s2)
  have hkF : KvOk (upd (upd H1 d2 (.dT [])) d1 (.frz od (.dT kvs))) kvs N := (hkv.keep (.of s2)).keep tkF
  generalize upd (upd H1 d2 (.dT [])) d1 (.frz od (.dT kvs)) = Hf at e1 e2 sF hkF ⊢
  have hd2H : H d2 = none := s1.free hd2
  refine ⟨_, rfl, d1, od, rfl, .inr ⟨kvs, e1, for_keysT (fun i σ H' => But d2 Hf H' ∧ TupK Hf H' ∧ (∃ o4, σ = [some (.ref a), some (.int n), some (.ref d1), some (.ref d2), o4, none]) ∧ ∃ M, DAt H' d2 M ∧ (∀ p, p ∈ keys M ↔ p ∈ keys (N.take i) ∧ p.length < 3) ∧ (keys M).Nodup ∧ (∀ e ∈ M, WsOk e.2) ∧ M.length ≤ i)
    ⟨But.refl _ _, TupK.refl _, ⟨_, rfl⟩, [], ⟨[], e2, .nil⟩, fun p => ⟨fun h => (by cases h), fun h => (by cases h.1)⟩, .nil, fun e h => (by cases h), Nat.le_refl _⟩ (fun i σ H' _ p => p.1 _ _ d12 e1) ?_ ?_⟩⟩
  · rintro i k v r σ H' hi hr1 ⟨b1, tk, ⟨o4, rfl⟩, M, hDM, m1, m2, m3, m4⟩
    obtain ⟨p, ws, hNi, rfl, hvs⟩ := kv_at hkF hi
    rw [kk_v] at hr1
    have hpm := List.mem_of_getElem? hNi
    have hpk : p ∈ keys N := List.mem_map.mpr ⟨(p, ws), hpm, rfl⟩
    have ek : keys (N.take (i + 1)) = keys (N.take i) ++ [p] := by
      show List.map _ _ = List.map _ _ ++ _
      rw [take_succ hNi, List.map_append]
      rfl
    have hiN : i < N.length := (List.getElem?_eq_some_iff.mp hNi).1
    refine ⟨_, rfl, r, _, rfl, .inr (SqT.of hr1), _, _, rfl, rfl, _, rfl, ?_⟩
    have e3 : decide ((((p.map V.str).length : Nat) : Int) < 3) = decide (p.length < 3) := by
      refine decide_eq_decide.mpr ?_
      rw [List.length_map]
      omega
    refine cast (congrArg (fun b => if b = true then _ else _) e3.symm) ?_
    refine ite2 (fun c => ?_) (fun c => ?_)
    · have c := of_decide_eq_true c
      have hkN : lk N p = some ws := by
        obtain ⟨ws', e⟩ := Option.isSome_iff_exists.mp (lk_mem.mpr hpk)
        rw [nodup_val W.nd hpm (lk_in e)]
        exact e
      obtain ⟨v2, hg, hv2⟩ := dget_frz (b1 _ _ d12 e1) (hkF.keep tk) hr1 hkN
      obtain ⟨H2, hput, hD2, o, rfl⟩ := dput_of hDM hr1 hv2 (small1000 (by omega))
      have tk2 : TupK H' (upd H' d2 o) := by
        obtain ⟨kvM, hM, _⟩ := hDM
        exact .put hM fun _ z => by cases z
      refine ⟨_, rfl, _, rfl, d1, v2, rfl, hg, _, rfl, _, rfl, d2, _, rfl, hput, b1.trans But.upd, tk.trans tk2, ⟨_, rfl⟩, _, hD2, fun x => ?_, put_nodup m2, fun e he => ?_, ?_⟩
      · rw [keys_put, ek]
        by_cases hx : p ∈ keys M
        · rw [if_pos hx, m1, List.mem_append, List.mem_singleton]
          have := (m1 p).mp hx
          constructor
          · rintro ⟨h1, h2⟩
            exact ⟨.inl h1, h2⟩
          · rintro ⟨h1 | h1, h2⟩
            · exact ⟨h1, h2⟩
            · rw [h1]
              exact this
        · rw [if_neg hx, List.mem_append, List.mem_singleton, List.mem_append, List.mem_singleton, m1]
          constructor
          · rintro (⟨h1, h2⟩ | h1)
            · exact ⟨.inl h1, h2⟩
            · rw [h1]
              exact ⟨.inr rfl, c⟩
          · rintro ⟨h1 | h1, h2⟩
            · exact .inl ⟨h1, h2⟩
            · exact .inr h1
      · rcases mem_put he with h | h
        · exact m3 e h
        · rw [h]
          exact W.wok _ hpm
      · have := put_len M p ws
        omega
    · have c : ¬ p.length < 3 := fun z => c (decide_eq_true z)
      refine ⟨b1, tk, ⟨_, rfl⟩, M, hDM, fun x => ?_, m2, m3, by omega⟩
      rw [m1, ek, List.mem_append, List.mem_singleton]
      constructor
      · rintro ⟨h1, h2⟩
        exact ⟨.inl h1, h2⟩
      · rintro ⟨h1 | h1, h2⟩
        · exact ⟨h1, h2⟩
        · rw [h1] at h2
          exact absurd h2 c
  · rintro σ H' ⟨b1, tk, ⟨o4, rfl⟩, M, hDM, m1, m2, m3, m4⟩
    have eN : N.take kvs.length = N := List.take_of_length_le (by rw [kv_len hkv]; exact Nat.le_refl _)
    rw [eN] at m1
    rw [kv_len hkv] at m4
    have WM := wfN_few W m1 m2 m3
    refine ⟨b1 _ _ d12 e1, ?_⟩
    have tk2 : TupK H' (upd H' d1 (.dT kvs)) := .put (b1 _ _ d12 e1) fun _ z => by cases z
    have hDM2 : DAt (upd H' d1 (.dT kvs)) d2 M := by
      obtain ⟨kvM, hM, h2⟩ := hDM
      exact ⟨kvM, by rw [upd_ne (Ne.symm d12)]; exact hM, h2.keep tk2⟩
    have s5 : Same H (upd H' d1 (.dT kvs)) := Same.put hd1 fun b o hb => b1 b o (ne_of_none hb hd2H) (sF b o hb)
    generalize upd H' d1 (.dT kvs) = H2 at hDM2 s5 ⊢
    refine ⟨_, rfl, Nat.zero_le _, fun p hp => ?_⟩
    have s6 : Same H2 (upd H2 p (.tup [])) := Same.new hp
    refine ⟨d2, M, [], .ref p, rfl, hDM2.same s6, ⟨p, rfl, upd_same⟩, WM, WM.root, by omega, (by decide), tabs_same hT (s5.trans s6), fun H4 y t e4 t4 hy tr => ?_⟩
    have e5 : ExtN H H4 := (ExtN.of (s5.trans s6)).trans e4
    obtain ⟨b, w1, k, vs, rfl, h1, h2, h3, h4⟩ := hy.parts
    refine ⟨_, rfl, n, rfl, fun H5 l s7 hl => ⟨_, rfl, _, _, _, _, rfl, rfl, SqT.of (s7 _ _ h1), atI_nat (j := 1) rfl, _, rfl, _, _, _, _, rfl, rfl, SqT.of (s7 _ _ h1), atI_nat (j := 2) rfl, (by show 3 ≤ sizeLine; decide), fun r hr5 => ?_⟩⟩
    have s8 := s7.trans (Same.new (o := .tup [.str l, .ref w1, .ref k]) hr5)
    have wdt : Wd 5 t := tr.wd.mono (by omega) t
    have dpt : t.deep ≤ 3 := by
      obtain ⟨q1, nd, hq, hl2⟩ := deep_path t tr.wf
      have e6 := tr.rep q1
      rw [hq, List.nil_append] at e6
      have := ((m1 q1).mp (lk_mem.mp (by rw [e6]; rfl))).2
      omega
    have dq : (Cm.T.mk l t.wds t.kids).deep = t.deep := by rw [Cm.T.deep_eq, Cm.T.deep_eq]; rfl
    have wq : Wd 5 (Cm.T.mk l t.wds t.kids) := .mk wdt.len wdt.kid
    refine q _ _ (.mk l t.wds t.kids) (e5.trans (ExtN.of s8)) (tabs_same t4 s8) (TAt.mk2 upd_same (h2.keep (.of s8)) (s8 _ _ h3) (h4.keep (.of s8))) ⟨.mk tr.wf.kid tr.wf.labs tr.wf.ord tr.wf.wok, hl, by omega, wq.mono (by decide) _, ?_⟩
    have := size_le 3 _ wq (by omega)
    exact Nat.le_trans this (by decide)
theorem ok_law_drawn {f : Addr} {fd : FuncData} {T : List (Addr × Str)} (D : DefAt K mg "_law_drawn" sc_law_drawnS f fd) (C_law_place : CallOk P w K mg base 2 "_law_place" sc_law_placeP spPlace) (C_law_words : CallOk P w K mg base 2 "_law_words" sc_law_wordsP spWords)
    (C_law_kid : CallOk P w K mg base 15 "_law_kid" sc_law_kidP (spLKid K T)) (C_law_row_of_nodes : CallOk P w K mg base 2 "_law_row_of_nodes" sc_law_row_of_nodesP spRow) : CallOk P w K mg base 16 "_law_drawn" sc_law_drawnP (spDrawn K T) := by
  refine D.call sc_law_drawn (fun vs H Q E h => ?_) (fun _ _ _ _ _ _ us hl => match us, hl with | [_, _, _], _ => rfl) (fun cdv A outer s H vs Q E hr h => ?_)
  · obtain ⟨_, _, _, _, _, rfl, _⟩ := h
    rfl
  refine ⟨_, (pss_cons (ps_set (i := 3) sc_law_drawn.nd rfl (Or.inl rfl) (pe_ix (r := rIxL K) ix_list (pv 0) (pv 1) (fun _ _ => rfl))) (pss_cons (ps_set (i := 4) sc_law_drawn.nd rfl (Or.inl rfl) (pe_cal C_law_place hr (by decide) rfl (pa_cons (pv 2) (pa_cons (pe_op op_fdiv (pv 3) pe_int) pa_nil)))) (pss_cons (ps_if (pt_cmpR op_eq (pe_op op_mod (pv 3) pe_int) pe_int (nomark _)) (pss_one (ps_ret (pe_tup (pa_cons pe_str (pa_cons (pv 4) (pa_cons (pe_cal C_law_words hr (by decide) rfl (pa_cons (pe_op op_fdiv (pv 3) pe_int) pa_nil)) pa_nil)))))) pss_nil) (pss_cons (ps_if (pt_cmpR op_eq (pe_op op_mod (pv 3) pe_int) pe_int (nomark _)) (pss_one (ps_ret (pe_tup (pa_cons pe_str (pa_cons (pv 4) (pa_cons pe_non pa_nil)))))) pss_nil) (pss_cons (ps_set (i := 5) sc_law_drawn.nd rfl (Or.inl rfl) (pe_cal C_law_kid hr (by decide) rfl (pa_cons (pe_slice (r := rSlL K) sl_list (pv 0) (po_some (pv 1)) (po_some (pe_op op_add (pv 1) pe_int))) (pa_cons (pe_op op_fdiv (pv 3) pe_int) pa_nil)))) (pss_cons (ps_if (pt_cmpR op_eq (pe_op op_mod (pe_op op_fdiv (pv 3) pe_int) pe_int) pe_int (nomark _)) (pss_one (ps_set (i := 5) sc_law_drawn.nd rfl (Or.inl rfl) (pe_cal C_law_row_of_nodes hr (by decide) rfl (pa_cons (pe_op op_fdiv (pv 3) pe_int) pa_nil)))) pss_nil) (pss_one (ps_ret (pe_tup (pa_cons pe_str (pa_cons (pv 4) (pa_cons (pv 5) pa_nil)))))))))))), ?_⟩
  obtain ⟨a, d, k, ns, N, rfl, hS, hk, hD, W, hT, q⟩ := h
  have hk' : k < (ns.map V.int).length := by rw [List.length_map]; exact hk
  obtain ⟨c, hc⟩ : ∃ c, (ns.map V.int)[k]? = some (.int c) := ⟨ns[k], by rw [List.getElem?_map, List.getElem?_eq_getElem hk]; rfl⟩
  refine ⟨_, rfl, _, rfl, a, _, _, _, rfl, rfl, hS, atI_nat hc, ?_⟩
  refine ⟨_, rfl, _, rfl, _, _, rfl, rfl, ⟨by decide, by decide⟩, d, _, N, rfl, hD, W, fun H1 x pl s1 hx hpl => ?_⟩
  refine ⟨_, rfl, _, _, rfl, rfl, (by show (0 : Int) < 4; decide), rfl, _, rfl, ?_⟩
  refine ite2 (fun c1 => ?_) (fun c1 => ?_)
  · refine ⟨_, rfl, _, rfl, _, _, rfl, rfl, ⟨by decide, by decide⟩, _, rfl, fun H2 y ws s2 hy hws => ⟨(by show 3 ≤ sizeLine; decide), fun p hp => ?_⟩⟩
    have s3 := s2.trans (Same.new (o := .tup [.str "read", x, y]) hp)
    exact q _ _ (.read pl ws) (ExtN.of (s1.trans s3)) (tabs_same hT (s1.trans s3)) ⟨p, x, y, rfl, upd_same, hx.keep (.of s3), hy.keep (.of (Same.new hp))⟩ ⟨hpl, hws⟩
  refine ⟨_, rfl, _, _, rfl, rfl, (by show (0 : Int) < 4; decide), rfl, _, rfl, ?_⟩
  refine ite2 (fun c2 => ?_) (fun c2 => ?_)
  · refine ⟨_, rfl, (by show 3 ≤ sizeLine; decide), fun p hp => ?_⟩
    have s3 := Same.new (o := .tup [.str "out", x, .non]) hp
    exact q _ _ (.out pl) (ExtN.of (s1.trans s3)) (tabs_same hT (s1.trans s3)) ⟨p, x, .non, rfl, upd_same, hx.keep (.of s3), rfl⟩ hpl
  have s12 : ∀ {L : Addr} {xs : List V}, H1 L = none → Same H (upd H1 L (.lst xs)) := fun h => s1.trans (Same.new h)
  refine ⟨_, rfl, _, rfl, _, rfl, _, rfl, _, _, rfl, rfl, _, rfl, a, _, rfl, s1.seq hS, fun L hL => ?_⟩
  have ecut : cutV (ns.map V.int) (some (k : Int)) (some ((k : Int) + 4)) = ((ns.drop k).take 4).map V.int := by
    unfold cutV
    have e1 : (k : Int) + 4 = ((k + 4 : Nat) : Int) := by omega
    rw [e1, HT.sIx_nat, HT.sIx_nat, List.length_map, Nat.min_eq_left (Nat.le_of_lt hk), List.map_take, List.map_drop]
    rcases Nat.le_total (k + 4) ns.length with h | h
    · rw [Nat.min_eq_left h]
      congr 1
      omega
    · rw [Nat.min_eq_right h, List.take_of_length_le (by rw [List.length_drop, List.length_map]; exact Nat.le_refl _), List.take_of_length_le (by rw [List.length_drop, List.length_map]; omega)]
  refine ⟨_, rfl, _, _, rfl, rfl, ⟨by decide, by decide⟩, L, _, (ns.drop k).take 4, rfl, SqL.of (by rw [upd_same]; exact congrArg (fun l => some (HO.lst l)) ecut), ?_, tabs_same hT (s12 hL), fun H2 y t e2 t2 hy hnd => ?_⟩
  · rw [List.length_take]
    omega
  have e12 : ExtN H H2 := (ExtN.of (s12 hL)).trans e2
  have hx2 : SAt H2 x pl := (hx.keep (.of (Same.new hL))).keep (ext_tup e2)
  have fin : ∀ G z u, ExtN H G → Tabs T G → SAt G x pl → TAt G u z → NdOk u → ∀ p, G p = none → Q (.ref p) (upd G p (.tup [.str "put", x, z])) := fun G z u eG tG hxG hz hu p hp => by
    have s3 := Same.new (o := .tup [.str "put", x, z]) hp
    exact q _ _ (.put pl u) (eG.trans (ExtN.of s3)) (tabs_same tG s3) ⟨p, x, z, rfl, upd_same, hxG.keep (.of s3), hz.keep (.of s3)⟩ ⟨hpl, hu⟩
  refine ⟨_, rfl, _, _, rfl, rfl, ⟨by decide, by decide⟩, _, _, rfl, rfl, (by show (0 : Int) < 6; decide), rfl, _, rfl, ?_⟩
  refine ite2 (fun c3 => ?_) (fun c3 => ?_)
  · exact ⟨_, rfl, _, _, rfl, rfl, ⟨by decide, by decide⟩, _, rfl, fun H3 z u s3 hz hu => ⟨_, rfl, _, rfl, (by show 3 ≤ sizeLine; decide), fin H3 z u (e12.trans (ExtN.of s3)) (tabs_same t2 s3) (hx2.keep (.of s3)) hz hu⟩⟩
  · exact ⟨_, rfl, _, rfl, (by show 3 ≤ sizeLine; decide), fin H2 y t e12 t2 hx2 hy hnd⟩
end
end Cm
end

section
/-! Tuples and texts alike: _law_same. -/
namespace Cm
open PySem PySem.Spec PyProof.Rows L2 RZ
/-- texts and tuples of such -/
inductive Dt where
  | s (x : Str)
  | t (l : List Dt)
mutual
def DtAt (H : Hp) : Dt → V → Prop
  | .s x, v => v = .str x
  | .t l, v => ∃ (a : Addr) (vs : List V), v = .ref a ∧ H a = some (.tup vs) ∧ DtsAt H l vs
def DtsAt (H : Hp) : List Dt → List V → Prop
  | [], vs => vs = []
  | d :: l, vs => ∃ v r, vs = v :: r ∧ DtAt H d v ∧ DtsAt H l r
end
mutual
def Dt.dep : Dt → Nat
  | .s _ => 1
  | .t l => depL l + 1
def depL : List Dt → Nat
  | [] => 0
  | d :: l => max d.dep (depL l)
end
theorem depL_mem {l : List Dt} {d : Dt} (h : d ∈ l) : d.dep ≤ depL l := by
  induction l with
  | nil => cases h
  | cons x l ih =>
    unfold depL
    rcases List.mem_cons.mp h with h | h
    · rw [h]
      omega
    · have := ih h
      omega
theorem depL_of {l : List Dt} {n : Nat} (h : ∀ d ∈ l, d.dep ≤ n) : depL l ≤ n := by
  induction l with
  | nil => unfold depL; omega
  | cons x l ih =>
    unfold depL
    have h1 := h x List.mem_cons_self
    have h2 := ih fun d hd => h d (List.mem_cons_of_mem _ hd)
    omega
theorem dtsAt_nil {H : Hp} {vs : List V} : DtsAt H [] vs ↔ vs = [] := by unfold DtsAt; exact Iff.rfl
theorem dtsAt_cons {H : Hp} {d : Dt} {l : List Dt} {vs : List V} : DtsAt H (d :: l) vs ↔ ∃ v r, vs = v :: r ∧ DtAt H d v ∧ DtsAt H l r := by
  conv => lhs; unfold DtsAt
theorem dtAt_t {H : Hp} {l : List Dt} {v : V} : DtAt H (.t l) v ↔ ∃ (a : Addr) (vs : List V), v = .ref a ∧ H a = some (.tup vs) ∧ DtsAt H l vs := by
  conv => lhs; unfold DtAt
theorem dtAt_s {H : Hp} {x : Str} {v : V} : DtAt H (.s x) v ↔ v = .str x := by
  conv => lhs; unfold DtAt
theorem DtsAt.get {H : Hp} : ∀ {l : List Dt} {vs : List V} {i : Nat} {v : V}, DtsAt H l vs → vs[i]? = some v → ∃ d, l[i]? = some d ∧ DtAt H d v
  | [], vs, i, v, h, e => by rw [dtsAt_nil.mp h] at e; simp at e
  | d :: l, vs, 0, v, h, e => by
    obtain ⟨x, r, rfl, h1, h2⟩ := dtsAt_cons.mp h
    rw [List.getElem?_cons_zero] at e
    cases e
    exact ⟨d, rfl, h1⟩
  | d :: l, vs, i + 1, v, h, e => by
    obtain ⟨x, r, rfl, h1, h2⟩ := dtsAt_cons.mp h
    rw [List.getElem?_cons_succ] at e
    obtain ⟨u, h3, h4⟩ := DtsAt.get h2 e
    exact ⟨u, by rw [List.getElem?_cons_succ]; exact h3, h4⟩
theorem DtsAt.len {H : Hp} : ∀ {l : List Dt} {vs : List V}, DtsAt H l vs → vs.length = l.length
  | [], vs, h => by rw [dtsAt_nil.mp h] <;> rfl
  | d :: l, vs, h => by
    obtain ⟨v, r, rfl, _, h⟩ := dtsAt_cons.mp h
    rw [List.length_cons, List.length_cons, DtsAt.len h]
mutual
theorem DtAt.keep {H H' : Hp} (k : TupK H H') : ∀ (d : Dt) {v : V}, DtAt H d v → DtAt H' d v
  | .s x, v, h => dtAt_s.mpr (dtAt_s.mp h)
  | .t l, v, h => by
    obtain ⟨a, vs, e, h1, h2⟩ := dtAt_t.mp h
    exact dtAt_t.mpr ⟨a, vs, e, k _ _ h1, DtsAt.keep k l h2⟩
theorem DtsAt.keep {H H' : Hp} (k : TupK H H') : ∀ (l : List Dt) {vs : List V}, DtsAt H l vs → DtsAt H' l vs
  | [], vs, h => dtsAt_nil.mpr (dtsAt_nil.mp h)
  | d :: l, vs, h => by
    obtain ⟨v, r, e, h1, h2⟩ := dtsAt_cons.mp h
    exact dtsAt_cons.mpr ⟨v, r, e, DtAt.keep k d h1, DtsAt.keep k l h2⟩
end
/-- rows of words as data -/
def dtS (ws : List Str) : Dt := .t (ws.map Dt.s)
theorem dts_strs {H : Hp} : ∀ ws : List Str, DtsAt H (ws.map Dt.s) (ws.map V.str)
  | [] => dtsAt_nil.mpr rfl
  | w :: r => dtsAt_cons.mpr ⟨_, _, rfl, dtAt_s.mpr rfl, dts_strs r⟩
theorem SAt.dt {H : Hp} {v : V} {ws : List Str} (h : SAt H v ws) : DtAt H (dtS ws) v := by
  obtain ⟨a, rfl, h⟩ := h
  exact dtAt_t.mpr ⟨a, _, rfl, h, dts_strs ws⟩
theorem dtS_dep (ws : List Str) : (dtS ws).dep ≤ 2 := by
  unfold dtS Dt.dep
  have : depL (ws.map Dt.s) ≤ 1 := depL_of fun d hd => by
    obtain ⟨w, _, rfl⟩ := List.mem_map.mp hd
    unfold Dt.dep
    exact Nat.le_refl _
  omega
mutual
def dtT : T → Dt
  | .mk l ws ks => .t [.s l, dtS ws, .t (dtL ks)]
def dtL : List T → List Dt
  | [] => []
  | k :: r => dtT k :: dtL r
end
theorem TAt.dt {H : Hp} : ∀ (t : T) {v : V}, TAt H t v → DtAt H (dtT t) v := fun t => by
  refine T.ind (P := fun t => ∀ {v : V}, TAt H t v → DtAt H (dtT t) v) t fun l ws ks ih v h => ?_
  obtain ⟨a, w, c, vs, rfl, h1, h2, h3, h4⟩ := h.open
  have gen : ∀ {ls : List T} {us : List V}, TsAt H ls us → (∀ t ∈ ls, ∀ {v : V}, TAt H t v → DtAt H (dtT t) v) → DtsAt H (dtL ls) us := by
    intro ls
    induction ls with
    | nil => intro us h _; rw [tsAt_nil.mp h]; unfold dtL; exact dtsAt_nil.mpr rfl
    | cons t ls ih2 =>
      intro us h hk
      obtain ⟨x, r, rfl, a1, a2⟩ := tsAt_cons.mp h
      unfold dtL
      exact dtsAt_cons.mpr ⟨x, r, rfl, hk t List.mem_cons_self a1, ih2 a2 fun t ht => hk t (List.mem_cons_of_mem _ ht)⟩
  unfold dtT
  refine dtAt_t.mpr ⟨a, _, rfl, h1, dtsAt_cons.mpr ⟨_, _, rfl, dtAt_s.mpr rfl, dtsAt_cons.mpr ⟨_, _, rfl, SAt.dt ⟨w, rfl, h2⟩, dtsAt_cons.mpr ⟨_, _, rfl, dtAt_t.mpr ⟨c, vs, rfl, h3, gen h4 ih⟩, dtsAt_nil.mpr rfl⟩⟩⟩⟩
theorem dtT_dep : ∀ t : T, (dtT t).dep ≤ 2 * t.deep + 1 := fun t => by
  refine T.ind (P := fun t => (dtT t).dep ≤ 2 * t.deep + 1) t fun l ws ks ih => ?_
  have gen : ∀ {ls : List T}, (∀ t ∈ ls, (dtT t).dep ≤ 2 * t.deep + 1) → depL (dtL ls) ≤ 2 * deepL ls + 1 := by
    intro ls
    induction ls with
    | nil => intro _; unfold dtL depL; omega
    | cons t ls ih2 =>
      intro hk
      have h1 := hk t List.mem_cons_self
      have h2 := ih2 fun x hx => hk x (List.mem_cons_of_mem _ hx)
      unfold dtL depL deepL
      omega
  have h1 := gen ih
  have h2 := dtS_dep ws
  have e : (T.mk l ws ks).deep = deepL ks + 1 := T.deep_eq _
  rw [e]
  unfold dtT Dt.dep
  have : depL [.s l, dtS ws, .t (dtL ks)] ≤ 2 * (deepL ks + 1) := depL_of fun d hd => by
    simp only [List.mem_cons, List.not_mem_nil, or_false] at hd
    rcases hd with rfl | rfl | rfl
    · unfold Dt.dep
      omega
    · omega
    · unfold Dt.dep
      omega
  omega
def spSame (n : Nat) : Sp := fun vs H Q _ => ∃ (d : Dt) (x y : V), vs = [x, y] ∧ DtAt H d x ∧ DtAt H d y ∧ d.dep ≤ n ∧ ∀ H', Same H H' → Q (.bl true) H'
theorem kit_ss {K : PySem.W.Frag} : PySem.W.kitOne K (.type "str") (.type "str") = some true := kit_ty (by decide +kernel)
theorem kit_ts {K : PySem.W.Frag} : PySem.W.kitOne K (.type "tuple") (.type "str") = some false := kit_ty (by decide +kernel)
theorem kit_tt {K : PySem.W.Frag} : PySem.W.kitOne K (.type "tuple") (.type "tuple") = some true := kit_ty (by decide +kernel)
abbrev sc_law_sameS : Stmt := (top 42)
abbrev sc_law_sameN : List Str := ["_law_found", "_law_due_here", "_law_one", "_law_other"]
abbrev sc_law_sameP : List Str := ["_law_found", "_law_due_here"]
theorem sc_law_same : FnScope sc_law_sameN sc_law_sameP (defScope sc_law_sameS) := ⟨rfl, rfl, rfl, by decide +kernel, rfl, by decide +kernel, by decide +kernel⟩
section
variable {P : Program} {w : World} {K : PySem.W.Frag} {mg : Str → Option Value} {base : Heap}
theorem ok_law_same_step {f : Addr} {fd : FuncData} {n : Nat} (D : DefAt K mg "_law_same" sc_law_sameS f fd) (B : Bt mg) (C_law_same : CallOk P w K mg base (n + 1) "_law_same" sc_law_sameP (spSame n)) : CallOk P w K mg base (n + 2) "_law_same" sc_law_sameP (spSame (n + 1)) := by
  refine D.call sc_law_same (fun vs H Q E h => ?_) (fun _ _ _ _ _ _ us hl => match us, hl with | [_, _], _ => rfl) (fun cdv A outer s H vs Q E hr h => ?_)
  · obtain ⟨_, _, _, rfl, _⟩ := h
    rfl
  refine ⟨_, (pss_cons (ps_if (pt_val (pe_callB call_isi (by rfl) B.isinstance (by decide +kernel) (pa_cons (pv 1) (pa_cons (pe_bltn (v := .ty "str") rfl B.str (by decide +kernel) rfl) pa_nil)))) (pss_one (ps_ret (pe_and (pe_callB call_isi (by rfl) B.isinstance (by decide +kernel) (pa_cons (pv 0) (pa_cons (pe_bltn (v := .ty "str") rfl B.str (by decide +kernel) rfl) pa_nil))) (pe_one (pe_cmpR op_eq (pv 0) (pv 1) (nomark _)))))) pss_nil) (pss_cons (ps_if (pt_val (pe_callB call_isi (by rfl) B.isinstance (by decide +kernel) (pa_cons (pv 1) (pa_cons (pe_bltn (v := .ty "tuple") rfl B.tuple (by decide +kernel) rfl) pa_nil)))) (pss_one (ps_if (pt_not (pt_val (pe_callB call_isi (by rfl) B.isinstance (by decide +kernel) (pa_cons (pv 0) (pa_cons (pe_bltn (v := .ty "tuple") rfl B.tuple (by decide +kernel) rfl) pa_nil))))) (pss_one (ps_ret pe_bl)) pss_nil)) (pss_one (ps_if (pt_not (pt_val (pe_callB call_isi (by rfl) B.isinstance (by decide +kernel) (pa_cons (pv 0) (pa_cons (pe_bltn (v := .ty "list") rfl B.list (by decide +kernel) rfl) pa_nil))))) (pss_one (ps_ret pe_bl)) pss_nil))) (pss_cons (ps_if (pt_cmpR op_ne (pe_callB (r := Evl.rLenS K) call_len_seq (by rfl) B.len PySem.boot_len (pa_cons (pv 0) pa_nil)) (pe_callB (r := Evl.rLenS K) call_len_seq (by rfl) B.len PySem.boot_len (pa_cons (pv 1) pa_nil)) (nomark _)) (pss_one (ps_ret pe_bl)) pss_nil) (pss_cons (ps_for PassesOwn.never rfl (pi_zipA rfl B.zip (pa_cons (pv 0) (pa_cons (pv 1) pa_nil))) (pg_tup rfl (pgs_cons (pg_name (i := 2) sc_law_same.nd rfl (Or.inl rfl)) (pgs_cons (pg_name (i := 3) sc_law_same.nd rfl (Or.inl rfl)) pgs_nil))) (pss_one (ps_if (pt_not (pt_val (pe_cal C_law_same hr (Nat.le_refl _) rfl (pa_cons (pv 2) (pa_cons (pv 3) pa_nil))))) (pss_one (ps_ret pe_bl)) pss_nil))) (pss_one (ps_ret pe_bl)))))), ?_⟩
  obtain ⟨d, x, y, rfl, hx, hy, hd, q⟩ := h
  cases d with
  | s z =>
    obtain rfl := dtAt_s.mp hx
    obtain rfl := dtAt_s.mp hy
    refine ⟨_, rfl, _, _, _, _, true, rfl, .ty "str", .base (.str z), kit_ss, _, rfl, iteT ?_⟩
    refine ⟨_, rfl, _, _, _, _, true, rfl, .ty "str", .base (.str z), kit_ss, _, rfl, iteT ?_⟩
    refine ⟨_, rfl, _, rfl, rfl, ?_⟩
    rw [decide_eq_true rfl]
    exact q H (Same.refl _)
  | t l =>
    obtain ⟨a, us, rfl, ha, hus⟩ := dtAt_t.mp hx
    obtain ⟨b, vs, rfl, hb, hvs⟩ := dtAt_t.mp hy
    refine ⟨_, rfl, _, _, _, _, false, rfl, .ty "str", .base (.tup hb), kit_ts, _, rfl, iteF ?_⟩
    refine ⟨_, rfl, _, _, _, _, true, rfl, .ty "tuple", .base (.tup hb), kit_tt, _, rfl, iteT ?_⟩
    refine ⟨_, rfl, _, _, _, _, true, rfl, .ty "tuple", .base (.tup ha), kit_tt, _, rfl, iteF ?_⟩
    have el : us.length = vs.length := by rw [hus.len, hvs.len]
    refine ⟨_, rfl, a, _, rfl, .inr (SqT.of ha), _, rfl, b, _, rfl, .inr (SqT.of hb), rfl, _, rfl, ?_⟩
    have e : (!decide (V.int (us.length : Nat) = V.int (vs.length : Nat))) = false := by rw [el]; simp
    refine cast (congrArg (fun b => if b = true then _ else _) e.symm) ?_
    refine iteF ⟨_, rfl, _, rfl, a, b, us, vs, rfl, .inr ⟨SqT.of ha, SqT.of hb, for_zipT el (fun i σ H' => Same H H' ∧ ∃ o1 o2, σ = [some (.ref a), some (.ref b), o1, o2]) ⟨Same.refl _, _, _, rfl⟩ (fun i σ H' p => ⟨SqT.of (p.1 _ _ ha), SqT.of (p.1 _ _ hb)⟩) ?_ ?_⟩⟩
    · rintro i p1 p2 tp σ H' h1 h2 ⟨s1, o1, o2, rfl⟩ htp
      obtain ⟨d1, e1, a1⟩ := hus.get h1
      obtain ⟨d2, e2, a2⟩ := hvs.get h2
      obtain rfl : d1 = d2 := by rw [e1] at e2; exact Option.some.inj e2
      have s2 : Same H' (upd H' tp (.tup [p1, p2])) := Same.new htp
      have hdm := depL_mem (List.mem_of_getElem? e1)
      have hdd : (Dt.t l).dep = depL l + 1 := by
        conv => lhs; unfold Dt.dep
      refine ⟨tp, _, rfl, SqT.of upd_same, rfl, _, _, rfl, _, _, rfl, rfl, ?_⟩
      refine ⟨_, rfl, _, rfl, d1, p1, p2, rfl, DtAt.keep (.of (s1.trans s2)) _ a1, DtAt.keep (.of (s1.trans s2)) _ a2, by omega, fun H2 s3 => ⟨true, rfl, iteF ⟨(s1.trans s2).trans s3, _, _, rfl⟩⟩⟩
    · rintro σ H' ⟨s1, o1, o2, rfl⟩
      exact q H' s1
end
end Cm
end

section
/-! Why a change does not fit, by the table; the change made, its fields; the table behind it. -/
namespace Cm
open PySem PySem.Spec PyProof.Rows L2
def spWhy : Sp := fun vs H Q _ => ∃ (d : Addr) (x : V) (dr : Dr) (N : Nd), vs = [x, .ref d] ∧ OneAt H dr x ∧ dr.Ok ∧ DAt H d N ∧ ∀ H', Same H H' → Q (whyV (whyN N dr)) H'
def spMk (c : Cs) : Sp := fun vs H Q _ => ∃ (x : V) (dr : Dr), vs = [x] ∧ OneAt H dr x ∧ ∀ H' v, Same H H' → ChAt c H' dr v → Q v H'
def spFields (c : Cs) : Sp := fun vs H Q _ => ∃ (x v : V) (dr : Dr), vs = [v, x] ∧ ChAt c H dr v ∧ OneAt H dr x ∧ dr.Ok ∧ ∀ H', Same H H' → Q (.bl true) H'
def spNoted : Sp := fun vs H Q _ => ∃ (d : Addr) (x : V) (dr : Dr) (N : Nd), vs = [.ref d, x] ∧ OneAt H dr x ∧ dr.Ok ∧ DAt H d N ∧ (keys N).Nodup ∧ N.length ≤ 80000 ∧ (∀ p ∈ keys N, ∀ a ∈ p, PyData.strOk a = true) ∧
  ∀ H' d', But d H H' → DAt H' d' (noted N dr) → (d' = d ∨ H d' = none) → Q (.ref d') H'
/-- each change's class is one of the class Change, at C -/
structure IsCh (K : PySem.W.Frag) (c : Cs) (C : Addr) : Prop where
  cls : ∀ d : Dr, PySem.W.findIn K (.ref (c.of d)) "__class__" = some (some (.builtin "object.__class__"))
  nn : PySem.W.specialIn K (.builtin "object.__class__") "__get__" = some (some (.builtin "getset_descriptor.__get__"))
  tk : PySem.W.takesIn K (.builtin "object.__class__") = some true
  mro : ∀ d : Dr, PySem.W.mroIn K (c.of d) (.type "object") = some true
  kit : ∀ d : Dr, PySem.W.kitOne K (.ref (c.of d)) (.ref C) = some true
structure Mks (P : Program) (w : World) (K : PySem.W.Frag) (mg : Str → Option Value) (base : Heap) (c : Cs) : Prop where
  mR : MakeOk P w K mg base 1 "Read" c.R ["self", "place", "words"] (spI2 c.R "words")
  mP : MakeOk P w K mg base 1 "PutIn" c.P ["self", "place", "node"] (spI2 c.P "node")
  mL : MakeOk P w K mg base 1 "LeaveOut" c.L ["self", "place"] (spI1 c.L)
abbrev sc_law_whyS : Stmt := (top 50)
abbrev sc_law_whyN : List Str := ["_law_one", "_law_nodes_here", "_law_word_here", "_law_place_here", "_law_more"]
abbrev sc_law_whyP : List Str := ["_law_one", "_law_nodes_here"]
theorem sc_law_why : FnScope sc_law_whyN sc_law_whyP (defScope sc_law_whyS) := ⟨rfl, rfl, rfl, by decide +kernel, rfl, by decide +kernel, by decide +kernel⟩
abbrev sc_law_madeS : Stmt := (top 51)
abbrev sc_law_madeN : List Str := ["_law_one"]
abbrev sc_law_madeP : List Str := ["_law_one"]
theorem sc_law_made : FnScope sc_law_madeN sc_law_madeP (defScope sc_law_madeS) := ⟨rfl, rfl, rfl, by decide +kernel, rfl, by decide +kernel, by decide +kernel⟩
abbrev sc_law_fieldsS : Stmt := (top 52)
abbrev sc_law_fieldsN : List Str := ["_law_change", "_law_one"]
abbrev sc_law_fieldsP : List Str := ["_law_change", "_law_one"]
theorem sc_law_fields : FnScope sc_law_fieldsN sc_law_fieldsP (defScope sc_law_fieldsS) := ⟨rfl, rfl, rfl, by decide +kernel, rfl, by decide +kernel, by decide +kernel⟩
abbrev sc_law_notedS : Stmt := (top 54)
abbrev sc_law_notedN : List Str := ["_law_nodes_here", "_law_one", "_law_word_here", "_law_place_here", "_law_more"]
abbrev sc_law_notedP : List Str := ["_law_nodes_here", "_law_one"]
theorem sc_law_noted : FnScope sc_law_notedN sc_law_notedP (defScope sc_law_notedS) := ⟨rfl, rfl, rfl, by decide +kernel, rfl, by decide +kernel, by decide +kernel⟩
section
variable {P : Program} {w : World} {K : PySem.W.Frag} {mg : Str → Option Value} {base : Heap} {c : Cs}
theorem ok_law_why {f : Addr} {fd : FuncData} (D : DefAt K mg "_law_why" sc_law_whyS f fd) (B : Bt mg) (C_law_deep : CallOk P w K mg base 10 "_law_deep" sc_law_deepP (spDeep 9)) : CallOk P w K mg base 11 "_law_why" sc_law_whyP spWhy := by
  refine D.call sc_law_why (fun vs H Q E h => ?_) (fun _ _ _ _ _ _ us hl => match us, hl with | [_, _], _ => rfl) (fun cdv A outer s H vs Q E hr h => ?_)
  · obtain ⟨_, _, _, _, rfl, _⟩ := h
    rfl
  have hu := hu_of hr
  have hu64 := hr.units
  refine ⟨_, (pss_cons (ps_asg (pv 0) (pg_tup rfl (pgs_cons (pg_name (i := 2) sc_law_why.nd rfl (Or.inl rfl)) (pgs_cons (pg_name (i := 3) sc_law_why.nd rfl (Or.inl rfl)) (pgs_cons (pg_name (i := 4) sc_law_why.nd rfl (Or.inl rfl)) pgs_nil))))) (pss_cons (ps_if (PW.pt (pw_and (pt_cmpR op_eq (pv 2) pe_str (nomark _)) (pw_and1 (pt_cmpR (r := rEqD K) (op_eqD hu64) (pv 3) (pe_tup pa_nil) (nomark _))))) (pss_one (ps_ret pe_str)) pss_nil) (pss_cons (ps_if (pt_cmp (pc_dnotin hu (pv 3) (pv 1)) rfl) (pss_one (ps_ret pe_str)) pss_nil) (pss_cons (ps_if (PW.pt (pw_and (pt_cmpR op_eq (pv 2) pe_str (nomark _)) (pw_and1 (pt_cmp (pc_din hu (pe_op (r := rCatA K) op_catA (pv 3) (pe_tup (pa_cons (pe_ix (r := rIxT K) ix_tup (pv 4) pe_int (fun _ _ => rfl)) pa_nil))) (pv 1)) rfl)))) (pss_one (ps_ret pe_str)) pss_nil) (pss_cons (ps_if (PW.pt (pw_and (pt_cmpR op_eq (pv 2) pe_str (nomark _)) (pw_and1 (pt_cmpR op_gt (pe_op op_add (pe_op op_add (pe_callB (r := Evl.rLenS K) call_len_seq (by rfl) B.len PySem.boot_len (pa_cons (pv 3) pa_nil)) pe_int) (pe_cal C_law_deep hr (by decide) rfl (pa_cons (pv 4) pa_nil))) pe_int (nomark _))))) (pss_one (ps_ret pe_str)) pss_nil) (pss_one (ps_ret pe_non))))))), ?_⟩
  obtain ⟨d, x, dr, N, rfl, ⟨a, u, y, rfl, ha, hp, hy⟩, ok, hD, q⟩ := h
  obtain ⟨ua, rfl, hua⟩ := hp
  have hpl := ok.pl
  have dg := fun G (s : Same H G) => (dget_of (hD.same s) (s _ _ hua)).2
  refine ⟨_, rfl, a, _, rfl, SqT.of ha, rfl, _, _, rfl, _, _, rfl, _, _, rfl, rfl, ?_⟩
  cases dr with
  | read p ws =>
    refine ⟨_, rfl, rfl, _, rfl, iteF (iteF ?_)⟩
    obtain ⟨o, hg, ho⟩ := dg H (Same.refl _)
    refine ⟨_, rfl, _, rfl, d, o, rfl, hg, _, rfl, ?_⟩
    have ho : o.isSome = (lk N p).isSome := ho
    rw [ho]
    have q : ∀ H', Same H H' → Q (whyV (if (lk N p).isSome then Why.fits else Why.place)) H' := q
    cases hk : (lk N p).isSome with
    | false =>
      rw [hk] at q
      exact iteT (q _ (Same.refl _))
    | true =>
      rw [hk] at q
      exact iteF ⟨_, rfl, rfl, _, rfl, iteF (iteF ⟨_, rfl, rfl, _, rfl, iteF (iteF (q _ (Same.refl _)))⟩)⟩
  | out p =>
    refine ⟨_, rfl, rfl, _, rfl, iteT ⟨_, rfl, eqP0 ⟨ua, rfl, hua⟩ (labs_ok hpl.2) fun H1 s1 => ⟨_, rfl, ?_⟩⟩⟩
    have q : ∀ H', Same H H' → Q (whyV (if p = [] then Why.whole else if (lk N p).isSome then Why.fits else Why.place)) H' := q
    by_cases hz : p = []
    · rw [if_pos hz] at q
      have e : decide (Dr.pl (.out p) = []) = true := decide_eq_true hz
      rw [e]
      exact iteT (q _ s1)
    rw [if_neg hz] at q
    have e : decide (Dr.pl (.out p) = []) = false := decide_eq_false hz
    rw [e]
    obtain ⟨o, hg, ho⟩ := dg H1 s1
    refine iteF ⟨_, rfl, _, rfl, d, o, rfl, hg, _, rfl, ?_⟩
    have ho : o.isSome = (lk N p).isSome := ho
    rw [ho]
    cases hk : (lk N p).isSome with
    | false =>
      rw [hk] at q
      exact iteT (q _ s1)
    | true =>
      rw [hk] at q
      exact iteF ⟨_, rfl, rfl, _, rfl, iteF (iteF ⟨_, rfl, rfl, _, rfl, iteF (iteF (q _ s1))⟩)⟩
  | put p n =>
    have hy : TAt H n y := hy
    have okn : NdOk n := ok.2
    have hy0 := hy
    obtain ⟨b, w1, k, us, rfl, h1, h2, h3, h4⟩ := hy.parts
    refine ⟨_, rfl, rfl, _, rfl, iteF (iteF ?_)⟩
    obtain ⟨o, hg, ho⟩ := dg H (Same.refl _)
    refine ⟨_, rfl, _, rfl, d, o, rfl, hg, _, rfl, ?_⟩
    have ho : o.isSome = (lk N p).isSome := ho
    rw [ho]
    have q : ∀ H', Same H H' → Q (whyV (if (lk N p).isSome then if (lk N (p ++ [n.lab])).isSome then Why.there else if p.length + 1 + n.deep > 9 then Why.deep else Why.fits else Why.place)) H' := q
    cases hk : (lk N p).isSome with
    | false =>
      rw [hk] at q
      exact iteT (q _ (Same.refl _))
    | true =>
      rw [hk] at q
      have lp : p.length ≤ 8 := hpl.1
      refine iteF ⟨_, rfl, rfl, _, rfl, iteT ⟨_, rfl, _, rfl, _, _, _, _, rfl, rfl, SqT.of h1, atI_nat (j := 0) rfl, (by show 1 ≤ sizeLine; decide), fun t ht => catP (pl := p) ((Same.new ht) _ _ hua) upd_same (by omega) fun H2 x2 s2 hx2 => ?_⟩⟩
      obtain ⟨xa, rfl, hxa⟩ := hx2
      have s3 : Same H H2 := (Same.new ht).trans s2
      obtain ⟨o2, hg2, ho2⟩ := (dget_of (hD.same s3) hxa).2
      refine ⟨_, rfl, d, o2, rfl, hg2, _, rfl, ?_⟩
      rw [ho2]
      cases hk2 : (lk N (p ++ [n.lab])).isSome with
      | true =>
        rw [hk2] at q
        exact iteT (q _ s3)
      | false =>
        rw [hk2] at q
        have q : ∀ H', Same H H' → Q (whyV (if p.length + 1 + n.deep > 9 then Why.deep else Why.fits)) H' := q
        refine iteF ⟨_, rfl, rfl, _, rfl, iteT ⟨_, rfl, ua, _, rfl, .inr (SqT.of (s3 _ _ hua)), _, _, rfl, rfl, _, rfl, n, _, rfl, hy0.keep (.of s3), by have := okn.deep; omega, okn.wd.mono (by decide) n, fun H4 s4 => ⟨_, _, rfl, rfl, _, _, rfl, rfl, _, rfl, ?_⟩⟩⟩
        have e : decide ((9 : Int) < (((Dr.pl (.put p n)).map V.str).length : Int) + 1 + (n.deep : Nat)) = decide (p.length + 1 + n.deep > 9) := by
          refine decide_eq_decide.mpr ?_
          rw [List.length_map]
          show (9 : Int) < (p.length : Int) + 1 + (n.deep : Nat) ↔ _
          omega
        refine cast (congrArg (fun b => if b = true then _ else _) e.symm) ?_
        refine ite2 (fun z => ?_) (fun z => ?_)
        · rw [if_pos (of_decide_eq_true z)] at q
          exact q _ (s3.trans s4)
        · rw [if_neg (fun y => z (decide_eq_true y))] at q
          exact q _ (s3.trans s4)
theorem ok_law_made {f : Addr} {fd : FuncData} (D : DefAt K mg "_law_made" sc_law_madeS f fd) (M : Mks P w K mg base c) : CallOk P w K mg base 3 "_law_made" sc_law_madeP (spMk c) := by
  refine D.call sc_law_made (fun vs H Q E h => ?_) (fun _ _ _ _ _ _ us hl => match us, hl with | [_], _ => rfl) (fun cdv A outer s H vs Q E hr h => ?_)
  · obtain ⟨_, _, rfl, _⟩ := h
    rfl
  refine ⟨_, (pss_cons (ps_if (pt_cmpR op_eq (pe_ix (r := rIxT K) ix_tup (pv 0) pe_int (fun _ _ => rfl)) pe_str (nomark _)) (pss_one (ps_ret (pe_mk M.mR hr (by decide) rfl (pa_cons (pe_ix (r := rIxT K) ix_tup (pv 0) pe_int (fun _ _ => rfl)) (pa_cons (pe_ix (r := rIxT K) ix_tup (pv 0) pe_int (fun _ _ => rfl)) pa_nil))))) pss_nil) (pss_cons (ps_if (pt_cmpR op_eq (pe_ix (r := rIxT K) ix_tup (pv 0) pe_int (fun _ _ => rfl)) pe_str (nomark _)) (pss_one (ps_ret (pe_mk M.mP hr (by decide) rfl (pa_cons (pe_ix (r := rIxT K) ix_tup (pv 0) pe_int (fun _ _ => rfl)) (pa_cons (pe_ix (r := rIxT K) ix_tup (pv 0) pe_int (fun _ _ => rfl)) pa_nil))))) pss_nil) (pss_one (ps_ret (pe_mk M.mL hr (by decide) rfl (pa_cons (pe_ix (r := rIxT K) ix_tup (pv 0) pe_int (fun _ _ => rfl)) pa_nil)))))), ?_⟩
  obtain ⟨x, dr, rfl, ⟨a, u, y, rfl, ha, hp, hy⟩, q⟩ := h
  have mk : ∀ {v dx : Addr} {fs1 fs2 : List (Str × V)} {C : Addr}, H v = none → H dx = none → dx ≠ v → Same H (upd (upd (upd (upd H dx (.own v)) v (.ins C dx [])) v (.ins C dx fs1)) v (.ins C dx fs2)) := fun h1 h2 h3 => Same.put h1 (Same.put h1 (Same.put h1 (Same.new h2)))
  have mk1 : ∀ {v dx : Addr} {fs1 : List (Str × V)} {C : Addr}, H v = none → H dx = none → dx ≠ v → Same H (upd (upd (upd H dx (.own v)) v (.ins C dx [])) v (.ins C dx fs1)) := fun h1 h2 h3 => Same.put h1 (Same.put h1 (Same.new h2))
  cases dr with
  | read p ws =>
    refine ⟨_, rfl, _, _, _, _, rfl, rfl, SqT.of ha, atI_nat (j := 0) rfl, rfl, _, rfl, iteT ⟨_, rfl, _, _, _, _, rfl, rfl, SqT.of ha, atI_nat (j := 1) rfl, _, rfl, _, _, _, _, rfl, rfl, SqT.of ha, atI_nat (j := 2) rfl, fun v dx h1 h2 h3 => ⟨v, dx, _, _, rfl, upd_same, rfl, ?_⟩⟩⟩
    have s := mk (fs1 := [("place", u)]) (fs2 := [("place", u), ("words", y)]) (C := c.R) h1 h2 h3
    exact q _ _ s ⟨v, dx, u, y, rfl, upd_same, hp.keep (.of s), argAt.keep (d := .read p ws) (.of s) hy⟩
  | put p n =>
    refine ⟨_, rfl, _, _, _, _, rfl, rfl, SqT.of ha, atI_nat (j := 0) rfl, rfl, _, rfl, iteF ⟨_, rfl, _, _, _, _, rfl, rfl, SqT.of ha, atI_nat (j := 0) rfl, rfl, _, rfl, iteT ⟨_, rfl, _, _, _, _, rfl, rfl, SqT.of ha, atI_nat (j := 1) rfl, _, rfl, _, _, _, _, rfl, rfl, SqT.of ha, atI_nat (j := 2) rfl, fun v dx h1 h2 h3 => ⟨v, dx, _, _, rfl, upd_same, rfl, ?_⟩⟩⟩⟩
    have s := mk (fs1 := [("place", u)]) (fs2 := [("place", u), ("node", y)]) (C := c.P) h1 h2 h3
    exact q _ _ s ⟨v, dx, u, y, rfl, upd_same, hp.keep (.of s), argAt.keep (d := .put p n) (.of s) hy⟩
  | out p =>
    refine ⟨_, rfl, _, _, _, _, rfl, rfl, SqT.of ha, atI_nat (j := 0) rfl, rfl, _, rfl, iteF ⟨_, rfl, _, _, _, _, rfl, rfl, SqT.of ha, atI_nat (j := 0) rfl, rfl, _, rfl, iteF ⟨_, rfl, _, _, _, _, rfl, rfl, SqT.of ha, atI_nat (j := 1) rfl, fun v dx h1 h2 h3 => ⟨v, dx, _, rfl, upd_same, rfl, ?_⟩⟩⟩⟩
    have s := mk1 (fs1 := [("place", u)]) (C := c.L) h1 h2 h3
    exact q _ _ s ⟨v, dx, u, .non, rfl, upd_same, hp.keep (.of s), rfl⟩
theorem ok_law_fields {f CH : Addr} {fd : FuncData} (D : DefAt K mg "_law_fields" sc_law_fieldsS f fd) (B : Bt mg) (gC : mg "Change" = some (.ref CH)) (k : CsOk K c) (I : IsCh K c CH) (C_law_same : CallOk P w K mg base 20 "_law_same" sc_law_sameP (spSame 19)) : CallOk P w K mg base 21 "_law_fields" sc_law_fieldsP (spFields c) := by
  refine D.call sc_law_fields (fun vs H Q E h => ?_) (fun _ _ _ _ _ _ us hl => match us, hl with | [_, _], _ => rfl) (fun cdv A outer s H vs Q E hr h => ?_)
  · obtain ⟨_, _, _, rfl, _⟩ := h
    rfl
  refine ⟨_, (pss_cons (ps_if (PW.pt (pw_or (pt_not (pt_val (pe_callB call_isi (by rfl) B.isinstance (by decide +kernel) (pa_cons (pv 0) (pa_cons (pe_glob (v := .ref CH) rfl gC rfl) pa_nil))))) (pw_or1 (pt_not (pt_val (pe_cal C_law_same hr (by decide) rfl (pa_cons (pe_fld (pv 0) rfl) (pa_cons (pe_ix (r := rIxT K) ix_tup (pv 1) pe_int (fun _ _ => rfl)) pa_nil)))))))) (pss_one (ps_ret pe_bl)) pss_nil) (pss_cons (ps_if (pt_cmpR op_eq (pe_ix (r := rIxT K) ix_tup (pv 1) pe_int (fun _ _ => rfl)) pe_str (nomark _)) (pss_one (ps_ret (pe_cal C_law_same hr (by decide) rfl (pa_cons (pe_fld (pv 0) rfl) (pa_cons (pe_ix (r := rIxT K) ix_tup (pv 1) pe_int (fun _ _ => rfl)) pa_nil))))) pss_nil) (pss_one (ps_ret (pe_or (pe_cmpR op_eq (pe_ix (r := rIxT K) ix_tup (pv 1) pe_int (fun _ _ => rfl)) pe_str (nomark _)) (pe_one (pe_cal C_law_same hr (by decide) rfl (pa_cons (pe_fld (pv 0) rfl) (pa_cons (pe_ix (r := rIxT K) ix_tup (pv 1) pe_int (fun _ _ => rfl)) pa_nil))))))))), ?_⟩
  obtain ⟨x, v, dr, rfl, ⟨b, dx, u2, y2, rfl, hb, hp2, hy2⟩, ⟨a, u, y, rfl, ha, hp, hy⟩, ok, q⟩ := h
  have kd := k.of dr
  refine ⟨_, rfl, _, _, _, _, true, rfl, .own CH, .base (.ins hb kd.cl (I.cls dr) I.nn I.tk (I.mro dr)), I.kit dr, _, rfl, iteF ?_⟩
  refine ⟨_, rfl, b, _, dx, _, _, rfl, hb, kd.cl, kd.np, look_p, _, rfl, _, _, _, _, rfl, rfl, SqT.of ha, atI_nat (j := 1) rfl, dtS dr.pl, _, _, rfl, hp2.dt, hp.dt, by have := dtS_dep dr.pl; omega, fun H1 s1 => ⟨true, rfl, iteF ?_⟩⟩
  cases dr with
  | read p ws =>
    refine ⟨_, rfl, _, _, _, _, rfl, rfl, SqT.of (s1 _ _ ha), atI_nat (j := 0) rfl, rfl, _, rfl, iteT ⟨_, rfl, b, _, dx, _, _, rfl, s1 _ _ hb, kd.cl, kd.nw, rfl, _, rfl, _, _, _, _, rfl, rfl, SqT.of (s1 _ _ ha), atI_nat (j := 2) rfl, dtS ws, _, _, rfl, ?_, ?_, by have := dtS_dep ws; omega, fun H2 s2 => q _ (s1.trans s2)⟩⟩
    · exact (SAt.keep (.of s1) hy2).dt
    · exact (SAt.keep (.of s1) hy).dt
  | put p n =>
    have okn : NdOk n := ok.2
    refine ⟨_, rfl, _, _, _, _, rfl, rfl, SqT.of (s1 _ _ ha), atI_nat (j := 0) rfl, rfl, _, rfl, iteF ⟨_, rfl, _, _, _, _, rfl, rfl, SqT.of (s1 _ _ ha), atI_nat (j := 0) rfl, rfl, _, rfl, iteF ⟨_, rfl, b, _, dx, _, _, rfl, s1 _ _ hb, kd.cl, kd.nn, rfl, _, rfl, _, _, _, _, rfl, rfl, SqT.of (s1 _ _ ha), atI_nat (j := 2) rfl, dtT n, _, _, rfl, ?_, ?_, by have := dtT_dep n; have := okn.deep; omega, fun H2 s2 => q _ (s1.trans s2)⟩⟩⟩
    · exact (TAt.keep (.of s1) n hy2).dt
    · exact (TAt.keep (.of s1) n hy).dt
  | out p =>
    exact ⟨_, rfl, _, _, _, _, rfl, rfl, SqT.of (s1 _ _ ha), atI_nat (j := 0) rfl, rfl, _, rfl, iteF ⟨_, rfl, _, _, _, _, rfl, rfl, SqT.of (s1 _ _ ha), atI_nat (j := 0) rfl, rfl, _, rfl, iteT (q _ s1)⟩⟩
theorem ok_law_noted {f : Addr} {fd : FuncData} (D : DefAt K mg "_law_noted" sc_law_notedS f fd) (C_law_laid : CallOk P w K mg base 9 "_law_laid" sc_law_laidP (spLaid 8)) (C_law_gone : CallOk P w K mg base 1 "_law_gone" sc_law_goneP spGone) : CallOk P w K mg base 10 "_law_noted" sc_law_notedP spNoted := by
  refine D.call sc_law_noted (fun vs H Q E h => ?_) (fun _ _ _ _ _ _ us hl => match us, hl with | [_, _], _ => rfl) (fun cdv A outer s H vs Q E hr h => ?_)
  · obtain ⟨_, _, _, _, rfl, _⟩ := h
    rfl
  have hu := hu_of hr
  refine ⟨_, (pss_cons (ps_asg (pv 1) (pg_tup rfl (pgs_cons (pg_name (i := 2) sc_law_noted.nd rfl (Or.inl rfl)) (pgs_cons (pg_name (i := 3) sc_law_noted.nd rfl (Or.inl rfl)) (pgs_cons (pg_name (i := 4) sc_law_noted.nd rfl (Or.inl rfl)) pgs_nil))))) (pss_cons (ps_if (pt_cmpR op_eq (pv 2) pe_str (nomark _)) (pss_one (ps_dput hu (pv 0) (pv 3) (pv 4) rfl)) pss_nil) (pss_cons (ps_if (pt_cmpR op_eq (pv 2) pe_str (nomark _)) (pss_one (ps_expr (pe_cal C_law_laid hr (by decide) rfl (pa_cons (pv 0) (pa_cons (pe_op (r := rCatA K) op_catA (pv 3) (pe_tup (pa_cons (pe_ix (r := rIxT K) ix_tup (pv 4) pe_int (fun _ _ => rfl)) pa_nil))) (pa_cons (pv 4) pa_nil)))))) pss_nil) (pss_cons (ps_if (pt_cmpR op_eq (pv 2) pe_str (nomark _)) (pss_one (ps_ret (pe_cal C_law_gone hr (by decide) rfl (pa_cons (pv 0) (pa_cons (pv 3) pa_nil))))) pss_nil) (pss_one (ps_ret (pv 0))))))), ?_⟩
  obtain ⟨d, x, dr, N, rfl, ⟨a, u, y, rfl, ha, hp, hy⟩, ok, hD, hnd, hN, hlab, q⟩ := h
  obtain ⟨ua, rfl, hua⟩ := hp
  have hpl := ok.pl
  refine ⟨_, rfl, a, _, rfl, SqT.of ha, rfl, _, _, rfl, _, _, rfl, _, _, rfl, rfl, ?_⟩
  cases dr with
  | read p ws =>
    obtain ⟨H1, hput, hD1, o, rfl⟩ := dput_of (p := p) hD hua hy (Evl.sz_lt (by omega))
    exact ⟨_, rfl, rfl, _, rfl, iteT ⟨_, rfl, _, rfl, _, rfl, d, _, rfl, hput, _, rfl, rfl, _, rfl, iteF ⟨_, rfl, rfl, _, rfl, iteF ⟨_, rfl, q _ d But.upd hD1 (.inl rfl)⟩⟩⟩⟩
  | put p n =>
    have hy : TAt H n y := hy
    have okn : NdOk n := ok.2
    have hy0 := hy
    have lp : p.length ≤ 8 := hpl.1
    obtain ⟨b, w1, k, us, rfl, h1, h2, h3, h4⟩ := hy.parts
    refine ⟨_, rfl, rfl, _, rfl, iteF ⟨_, rfl, rfl, _, rfl, iteT ⟨_, rfl, _, rfl, _, rfl, _, _, _, _, rfl, rfl, SqT.of h1, atI_nat (j := 0) rfl, (by show 1 ≤ sizeLine; decide), fun t ht => catP (pl := p) ((Same.new ht) _ _ hua) upd_same (by omega) fun H2 x2 s2 hx2 => ?_⟩⟩⟩
    have s3 : Same H H2 := (Same.new ht).trans s2
    refine ⟨_, rfl, d, x2, _, N, p ++ [n.lab], n, rfl, hD.same s3, hx2, hy0.keep (.of s3), okn.deep, by have := okn.size; omega, by rw [List.length_append]; show _ + 1 + _ ≤ 100; have := okn.deep; omega, fun H3 b3 hD3 => ⟨_, rfl, rfl, _, rfl, iteF ⟨_, rfl, q _ d ((But.of s3).trans b3) hD3 (.inl rfl)⟩⟩⟩
  | out p =>
    exact ⟨_, rfl, rfl, _, rfl, iteF ⟨_, rfl, rfl, _, rfl, iteF ⟨_, rfl, rfl, _, rfl, iteT ⟨_, rfl, _, rfl, d, _, N, p, rfl, hD, ⟨ua, rfl, hua⟩, hnd, by omega, hlab, labs_ok hpl.2, fun H1 d' s1 hd' hD' => q _ d' (But.of s1) hD' (.inr hd')⟩⟩⟩⟩
end
end Cm
end

section
/-! What a change says of itself, and its refusal. -/
namespace Cm
open PySem PySem.Spec PyProof.Rows L2
structure Dns (P : Program) (w : World) (K : PySem.W.Frag) (mg : Str → Option Value) (base : Heap) (c : Cs) (N : Addr) : Prop where
  dR : MethOk P w K mg base (L2.CX P w) 13 c.R "done" ["self", "tree"] (spDone c N)
  dP : MethOk P w K mg base (L2.CX P w) 13 c.P "done" ["self", "tree"] (spDone c N)
  dL : MethOk P w K mg base (L2.CX P w) 13 c.L "done" ["self", "tree"] (spDone c N)
def tDoneE (c : Cs) (N : Addr) (E : L2.St → XK) (ta : TE) (t : TA) : TE := fun σ H Q => tMethE c.R "done" (spDone c N) E ta t σ H Q ∨ (tMethE c.P "done" (spDone c N) E ta t σ H Q ∨ tMethE c.L "done" (spDone c N) E ta t σ H Q)
section
variable {X : Cx} {o e : Expr} {es : List Expr} {ta : TE} {t : TA} {apos pos p : Pos} {c : Cs} {k : Nat} {N : Addr} {E : L2.St → XK}
theorem pe_doneE {pl : Sem Bool} (S : CsOk X.K c) (Dn : Dns X.prog X.w X.K X.mg X.base c N) (he : PE X o ta) (hr : Room k X.A) (hj : 13 ≤ k) (hx : ∀ σ, PassesAt (L2.CX X.prog X.w) X σ (E σ)) (ha : PA X (e :: es) t)
    (hst : starEach (e :: es) X.env = (false, eval e X.env) :: starEach es X.env := by rfl) (hpl : (backTo pos (starEach es X.env)).any (·.1) = false := by rfl)
    (ht : eval (.Call (.Attribute o "done" apos) (e :: es) [] pos) X.env = (do
      let ov ← eval o X.env
      standAt apos.atName
      let (f, first) ← holding [ov] (getMethod ov "done" pl)
      callWith pos f first (backTo pos (starEach (e :: es) X.env)) (backToKw pos (keywordEach [] X.env))) := by rfl) :
    PE X (.Call (.Attribute o "done" apos) (e :: es) [] pos) (tDoneE c N E ta t) :=
  PE.or (pe_mthE he S.R.cl Dn.dR hr hj hx ha hst hpl ht) (PE.or (pe_mthE he S.P.cl Dn.dP hr hj hx ha hst hpl ht) (pe_mthE he S.L.cl Dn.dL hr hj hx ha hst hpl ht))
end
theorem done_of {c : Cs} {N : Addr} {E : L2.St → XK} {σ : L2.St} {H : Hp} {Q : VK} {i j : Nat} {t : T} {d : Dr} {v u : V} (hi : σ[i]? = some (some v)) (hj : σ[j]? = some (some u)) (hc : ChAt c H d v) (ht : TAt H t u) (hf : Fit t d)
    (q1 : whyT t d = .fits → ∀ H' y, Same H H' → TAt H' (resT t d) y → Q y H') (q2 : whyT t d ≠ .fits → ∀ dd H', Same H H' → H' dd = some (.xd [("why", whyV (whyT t d))]) → E σ (.ref N) (some dd) H') : tDoneE c N E (tVar i) (tCons (tVar j) tNil) σ H Q := by
  have hc0 := hc
  obtain ⟨a, dx, pu, x, rfl, ha, hp, hx⟩ := hc
  have lm := (look_m (d := d) (u := pu) (x := x)).2.2
  cases d with
  | read p ws => exact .inl ⟨_, hi, a, dx, _, rfl, ha, lm, _, hj, t, _, _, _, rfl, hc0, ht, hf, q1, q2⟩
  | put p n => exact .inr (.inl ⟨_, hi, a, dx, _, rfl, ha, lm, _, hj, t, _, _, _, rfl, hc0, ht, hf, q1, q2⟩)
  | out p => exact .inr (.inr ⟨_, hi, a, dx, _, rfl, ha, lm, _, hj, t, _, _, _, rfl, hc0, ht, hf, q1, q2⟩)
theorem passAt0 {X : Cx} (σ : L2.St) : PassesAt (L2.CX X.prog X.w) X σ E0 := fun pins H s e s' I h => passL pins σ H s e s' I h
/-- the refusal's class at N, its base's at M, as isinstance and except see them -/
structure ExF (K : PySem.W.Frag) (mg : Str → Option Value) (M N : Addr) : Prop where
  gM : mg "MendError" = some (.ref M)
  gN : mg "NoFit" = some (.ref N)
  gV : mg "ValueError" = none
  exm : PySem.W.exmOne K (.ref N) (.ref M) = some true
  xc : ExcC K N
  xf : XfC K N
  no : PySem.W.findIn K (.ref N) "why" = some none
  kN : PySem.W.kitOne K (.ref N) (.ref N) = some true
  kV : PySem.W.kitOne K (.ref N) (.type "ValueError") = some true
structure ExO1 (K : PySem.W.Frag) (mg : Str → Option Value) (N : Addr) (x : Str) (a : Addr) : Prop where
  g : mg x = some (.ref a)
  k : PySem.W.kitOne K (.ref N) (.ref a) = some false
structure ExA where
  aNoText : Addr
  aNoPlace : Addr
  aNoName : Addr
  aTwice : Addr
  aNoDay : Addr
  aNoAct : Addr
  aNoRow : Addr
structure ExOs (K : PySem.W.Frag) (mg : Str → Option Value) (N : Addr) (a : ExA) : Prop where
  oNoText : ExO1 K mg N "NoText" a.aNoText
  oNoPlace : ExO1 K mg N "NoPlace" a.aNoPlace
  oNoName : ExO1 K mg N "NoName" a.aNoName
  oTwice : ExO1 K mg N "Twice" a.aTwice
  oNoDay : ExO1 K mg N "NoDay" a.aNoDay
  oNoAct : ExO1 K mg N "NoAct" a.aNoAct
  oNoRow : ExO1 K mg N "NoRow" a.aNoRow
def spRef (c : Cs) : Sp := fun vs H Q _ => ∃ (t : T) (d : Dr) (v u : V), vs = [v, u, whyV (whyT t d)] ∧ ChAt c H d v ∧ TAt H t u ∧ Fit t d ∧ whyT t d ≠ .fits ∧ ∀ H', Same H H' → Q (.bl true) H'
def spSays (c : Cs) : Sp := fun vs H Q _ => ∃ (t : T) (d : Dr) (v u : V), vs = [v, u, whyV (whyT t d)] ∧ ChAt c H d v ∧ TAt H t u ∧ Fit t d ∧ ∀ H', Same H H' → Q (.bl true) H'
theorem whyV_str {y : Why} (h : y ≠ .fits) : ∃ s : Str, whyV y = .str s := by
  cases y with
  | fits => exact absurd rfl h
  | place => exact ⟨_, rfl⟩
  | there => exact ⟨_, rfl⟩
  | deep => exact ⟨_, rfl⟩
  | whole => exact ⟨_, rfl⟩
abbrev sc_law_refusedS : Stmt := (top 47)
abbrev sc_law_refusedN : List Str := ["_law_change", "_law_tree_here", "_law_why_here", "_law_error", "e"]
abbrev sc_law_refusedP : List Str := ["_law_change", "_law_tree_here", "_law_why_here"]
theorem sc_law_refused : FnScope sc_law_refusedN sc_law_refusedP (defScope sc_law_refusedS) := ⟨rfl, rfl, rfl, by decide +kernel, rfl, by decide +kernel, by decide +kernel⟩
abbrev sc_law_saysS : Stmt := (top 55)
abbrev sc_law_saysN : List Str := ["_law_change", "_law_tree_here", "_law_why_here", "_law_found"]
abbrev sc_law_saysP : List Str := ["_law_change", "_law_tree_here", "_law_why_here"]
theorem sc_law_says : FnScope sc_law_saysN sc_law_saysP (defScope sc_law_saysS) := ⟨rfl, rfl, rfl, by decide +kernel, rfl, by decide +kernel, by decide +kernel⟩
section
variable {P : Program} {w : World} {K : PySem.W.Frag} {mg : Str → Option Value} {base : Heap} {c : Cs} {M N : Addr} {xa : ExA}
theorem ok_law_refused {f : Addr} {fd : FuncData} (D : DefAt K mg "_law_refused" sc_law_refusedS f fd) (B : Bt mg) (S : CsOk K c) (Dn : Dns P w K mg base c N) (X : ExF K mg M N) (O : ExOs K mg N xa) (C_law_same : CallOk P w K mg base 20 "_law_same" sc_law_sameP (spSame 19)) : CallOk P w K mg base 21 "_law_refused" sc_law_refusedP (spRef c) := by
  refine D.call sc_law_refused (fun vs H Q E h => ?_) (fun _ _ _ _ _ _ us hl => match us, hl with | [_, _, _], _ => rfl) (fun cdv A outer s H vs Q E hr h => ?_)
  · obtain ⟨_, _, _, _, rfl, _⟩ := h
    rfl
  obtain ⟨aNoText, aNoPlace, aNoName, aTwice, aNoDay, aNoAct, aNoRow⟩ := xa
  obtain ⟨oNoText, oNoPlace, oNoName, oTwice, oNoDay, oNoAct, oNoRow⟩ := O
  refine ⟨_, (pss_cons (ps_set (i := 3) sc_law_refused.nd rfl (Or.inl rfl) pe_non) (pss_cons (ps_try_hold (i := 4) (j := 3) rfl rfl rfl sc_law_refused.nd rfl rfl rfl rfl (by decide) ⟨rfl, by decide, .inl X.gM⟩ (by decide) (by decide) (fun W pn xe tk _ => pss_one (ps_expr (pe_doneE S Dn (pv 0) hr (by decide) (fun σ => passAt tk σ) (pa_cons (pv 1) pa_nil))))) (pss_cons (ps_if (PW.pt (pw_or (pt_not (pt_val (pe_callB (r := rIsX K) call_isX (by rfl) B.isinstance (by decide +kernel) (pa_cons (pv 3) (pa_cons (pe_glob (v := .ref N) rfl X.gN rfl) pa_nil))))) (pw_or1 (pt_not (pt_val (pe_callB (r := rIsX K) call_isX (by rfl) B.isinstance (by decide +kernel) (pa_cons (pv 3) (pa_cons (pe_bltn (v := .ty "ValueError") rfl X.gV (by decide +kernel) rfl) pa_nil)))))))) (pss_one (ps_ret pe_bl)) pss_nil) (pss_cons (ps_if (PW.pt (pw_or (pt_val (pe_callB (r := rIsX K) call_isX (by rfl) B.isinstance (by decide +kernel) (pa_cons (pv 3) (pa_cons (pe_glob (v := .ref aNoText) rfl oNoText.g rfl) pa_nil)))) (pw_or (pt_val (pe_callB (r := rIsX K) call_isX (by rfl) B.isinstance (by decide +kernel) (pa_cons (pv 3) (pa_cons (pe_glob (v := .ref aNoPlace) rfl oNoPlace.g rfl) pa_nil)))) (pw_or1 (pt_val (pe_callB (r := rIsX K) call_isX (by rfl) B.isinstance (by decide +kernel) (pa_cons (pv 3) (pa_cons (pe_glob (v := .ref aNoName) rfl oNoName.g rfl) pa_nil)))))))) (pss_one (ps_ret pe_bl)) pss_nil) (pss_cons (ps_if (PW.pt (pw_or (pt_val (pe_callB (r := rIsX K) call_isX (by rfl) B.isinstance (by decide +kernel) (pa_cons (pv 3) (pa_cons (pe_glob (v := .ref aTwice) rfl oTwice.g rfl) pa_nil)))) (pw_or (pt_val (pe_callB (r := rIsX K) call_isX (by rfl) B.isinstance (by decide +kernel) (pa_cons (pv 3) (pa_cons (pe_glob (v := .ref aNoDay) rfl oNoDay.g rfl) pa_nil)))) (pw_or (pt_val (pe_callB (r := rIsX K) call_isX (by rfl) B.isinstance (by decide +kernel) (pa_cons (pv 3) (pa_cons (pe_glob (v := .ref aNoAct) rfl oNoAct.g rfl) pa_nil)))) (pw_or1 (pt_val (pe_callB (r := rIsX K) call_isX (by rfl) B.isinstance (by decide +kernel) (pa_cons (pv 3) (pa_cons (pe_glob (v := .ref aNoRow) rfl oNoRow.g rfl) pa_nil))))))))) (pss_one (ps_ret pe_bl)) pss_nil) (pss_one (ps_ret (pe_cal C_law_same hr (by decide) rfl (pa_cons (pe_xfK X.xf X.no (pv 3)) (pa_cons (pv 2) pa_nil)))))))))), ?_⟩
  obtain ⟨t, d, v, u, rfl, hc, ht, hf, hw, q⟩ := h
  refine done_of rfl rfl hc ht hf (fun z => absurd z hw) fun _ dd H1 s1 hdd => ⟨X.exm, fun a ha => ?_⟩
  have hda : dd ≠ a := ne_of_none hdd ha
  have s2 : Same H (upd H1 a (ExcO a (.ref N) (some dd))) := s1.trans (Same.new ha)
  have h1 : upd H1 a (ExcO a (.ref N) (some dd)) a = some (ExcO a (.ref N) (some dd)) := upd_same
  have h2 : upd H1 a (ExcO a (.ref N) (some dd)) dd = some (.xd [("why", whyV (whyT t d))]) := by rw [upd_ne hda]; exact hdd
  generalize upd H1 a (ExcO a (.ref N) (some dd)) = H2 at s2 h1 h2 ⊢
  refine ⟨_, rfl, a, N, dd, _, _, _, true, rfl, .own N, X.xc, h1, h2, X.kN, true, rfl, iteF ?_⟩
  refine ⟨_, rfl, a, N, dd, _, _, _, true, rfl, .ty "ValueError", X.xc, h1, h2, X.kV, true, rfl, iteF ?_⟩
  refine ⟨_, rfl, a, N, dd, _, _, _, false, rfl, .own _, X.xc, h1, h2, oNoText.k, false, rfl, iteF ?_⟩
  refine ⟨_, rfl, a, N, dd, _, _, _, false, rfl, .own _, X.xc, h1, h2, oNoPlace.k, false, rfl, iteF ?_⟩
  refine ⟨_, rfl, a, N, dd, _, _, _, false, rfl, .own _, X.xc, h1, h2, oNoName.k, false, rfl, iteF ?_⟩
  refine ⟨_, rfl, a, N, dd, _, _, _, false, rfl, .own _, X.xc, h1, h2, oTwice.k, false, rfl, iteF ?_⟩
  refine ⟨_, rfl, a, N, dd, _, _, _, false, rfl, .own _, X.xc, h1, h2, oNoDay.k, false, rfl, iteF ?_⟩
  refine ⟨_, rfl, a, N, dd, _, _, _, false, rfl, .own _, X.xc, h1, h2, oNoAct.k, false, rfl, iteF ?_⟩
  refine ⟨_, rfl, a, N, dd, _, _, _, false, rfl, .own _, X.xc, h1, h2, oNoRow.k, false, rfl, iteF ?_⟩
  obtain ⟨sw, esw⟩ := whyV_str hw
  refine ⟨_, rfl, a, dd, _, whyV (whyT t d), rfl, h1, h2, rfl, _, rfl, .s sw, _, _, rfl, dtAt_s.mpr esw, dtAt_s.mpr esw, (show 1 ≤ 19 by decide), fun H3 s3 => q _ (s2.trans s3)⟩
theorem ok_law_says {f : Addr} {fd : FuncData} (D : DefAt K mg "_law_says" sc_law_saysS f fd) (S : Chs P w K mg base c) (C_law_same : CallOk P w K mg base 20 "_law_same" sc_law_sameP (spSame 19)) (C_law_refused : CallOk P w K mg base 21 "_law_refused" sc_law_refusedP (spRef c)) : CallOk P w K mg base 22 "_law_says" sc_law_saysP (spSays c) := by
  refine D.call sc_law_says (fun vs H Q E h => ?_) (fun _ _ _ _ _ _ us hl => match us, hl with | [_, _, _], _ => rfl) (fun cdv A outer s H vs Q E hr h => ?_)
  · obtain ⟨_, _, _, _, rfl, _⟩ := h
    rfl
  refine ⟨_, (pss_cons (ps_set (i := 3) sc_law_says.nd rfl (Or.inl rfl) (pe_reas S (pv 0) hr (by decide) (pa_cons (pv 1) pa_nil))) (pss_cons (ps_if (pt_cmpR op_isN (pv 2) pe_non (nomark _)) (pss_one (ps_ret (pe_cmpR op_isN (pv 3) pe_non (nomark _)))) pss_nil) (pss_one (ps_ret (pe_and (pe_cal C_law_same hr (by decide) rfl (pa_cons (pv 3) (pa_cons (pv 2) pa_nil))) (pe_one (pe_cal C_law_refused hr (by decide) rfl (pa_cons (pv 0) (pa_cons (pv 1) (pa_cons (pv 2) pa_nil)))))))))), ?_⟩
  obtain ⟨t, d, v, u, rfl, hc, ht, hf, q⟩ := h
  refine reas_of rfl rfl hc ht hf fun H1 s1 => ⟨_, rfl, rfl, _, rfl, ?_⟩
  rw [whyV_none]
  by_cases z : whyT t d = .fits
  · rw [decide_eq_true z]
    refine iteT ⟨_, rfl, rfl, ?_⟩
    rw [whyV_none, decide_eq_true z]
    exact q _ s1
  · rw [decide_eq_false z]
    obtain ⟨sw, esw⟩ := whyV_str z
    refine iteF ⟨_, rfl, _, rfl, .s sw, _, _, rfl, dtAt_s.mpr esw, dtAt_s.mpr esw, (show 1 ≤ 19 by decide), fun H2 s2 => ⟨true, rfl, iteT ⟨_, rfl, _, rfl, _, rfl, t, d, v, u, rfl, hc.same (s1.trans s2), ht.keep (.of (s1.trans s2)), hf, z, fun H3 s3 => q _ ((s1.trans s2).trans s3)⟩⟩⟩
end
end Cm
end

section
/-! The law's own hands at a node: one kid more, one less. -/
namespace Cm
open PySem PySem.Spec PyProof.Rows L2 LamX
/-- all but the tables stays, these as they must -/
def Gw (T : List (Addr × Str)) (H H' : Hp) : Prop := ExtN H H' ∧ (Tabs T H → Tabs T H')
theorem Gw.refl (T : List (Addr × Str)) (H : Hp) : Gw T H H := ⟨ExtN.refl H, id⟩
theorem Gw.trans {T : List (Addr × Str)} {H H1 H2 : Hp} (a : Gw T H H1) (b : Gw T H1 H2) : Gw T H H2 := ⟨a.1.trans b.1, fun t => b.2 (a.2 t)⟩
theorem Gw.of {T : List (Addr × Str)} {H H' : Hp} (s : Same H H') : Gw T H H' := ⟨ExtN.of s, fun t => tabs_same t s⟩
theorem Gw.tup {T : List (Addr × Str)} {H H' : Hp} (g : Gw T H H') : TupK H H' := ext_tup g.1
def nlab (H : Hp) (x : V) : Str := match x with
  | .ref a => (match H a with
    | some (.tup (.str l :: _)) => l
    | _ => Str.empty)
  | _ => Str.empty
theorem nlab_eq {H : Hp} {x : V} {t : T} (h : TAt H t x) : nlab H x = t.lab := by
  obtain ⟨a, w, k, vs, rfl, h1, _⟩ := h.open
  unfold nlab
  simp only [h1]
def nkey (H : Hp) (x : V) : Int × Str := (((key (nlab H x)).1 : Int), kS (nlab H x))
theorem kLt_key2 {a b : Str} : kLt (((key a).1 : Int), kS a) (((key b).1 : Int), kS b) ↔ klt (key a) (key b) := by
  unfold kLt klt kS
  simp only [List.toList_toArray, Int.ofNat_lt, Int.ofNat_inj]
theorem perm_pair {α β : Type} {F : α → β → Prop} {l' l : List α} (hp : l'.Perm l) : ∀ {m : List β}, Paired F l m → ∃ m', Paired F l' m' ∧ m'.Perm m := by
  induction hp with
  | nil => intro m h; cases h; exact ⟨[], .nil, .refl _⟩
  | cons x _ ih =>
    intro m h
    cases h with
    | cons r t =>
      obtain ⟨m', h1, h2⟩ := ih t
      exact ⟨_ :: m', .cons r h1, h2.cons _⟩
  | swap x y l =>
    intro m h
    cases h with
    | cons r1 t =>
      cases t with
      | cons r2 t => exact ⟨_, .cons r2 (.cons r1 t), .swap _ _ _⟩
  | trans _ _ ih1 ih2 =>
    intro m h
    obtain ⟨m1, a1, a2⟩ := ih2 h
    obtain ⟨m2, b1, b2⟩ := ih1 a1
    exact ⟨m2, b1, b2.trans a2⟩
theorem pairwise_pair {α β : Type} {F : α → β → Prop} {R : α → α → Prop} {S : β → β → Prop} (h : ∀ a b x y, F a x → F b y → R a b → S x y) : ∀ {l : List α} {m : List β}, Paired F l m → l.Pairwise R → m.Pairwise S
  | _, _, .nil, _ => .nil
  | _, _, .cons r t, hp => by
    obtain ⟨h1, h2⟩ := List.pairwise_cons.mp hp
    refine List.pairwise_cons.mpr ⟨fun y hy => ?_, pairwise_pair h t h2⟩
    obtain ⟨b, hb, rb⟩ := (paired_mem t).2 y hy
    exact h _ _ _ _ r rb (h1 b hb)
def spNK : Sp := fun vs H Q _ => ∃ (t : T) (x : V), vs = [x] ∧ TAt H t x ∧ IsLab t.lab ∧ ∀ (r : Addr) (H' : Hp), Same H H' → H' r = some (.tup [.int (key t.lab).1, .str (kS t.lab)]) → Q (.ref r) H'
def spLWith (T : List (Addr × Str)) : Sp := fun vs H Q _ => ∃ (t m : Cm.T) (v x : V), vs = [v, x] ∧ TAt H t v ∧ TAt H m x ∧ Wf t ∧ IsLab m.lab ∧ kidOf t.kids m.lab = none ∧ t.kids.length ≤ 900 ∧ Tabs T H ∧ ∀ H' y, Gw T H H' → TAt H' (fPut m t) y → Q y H'
def spLess : Sp := fun vs H Q _ => ∃ (t : T) (v : V) (a : Str), vs = [v, .str a] ∧ TAt H t v ∧ t.kids.length ≤ 900 ∧ ∀ H' y, Same H H' → TAt H' (fOut a t) y → Q y H'
abbrev sc_law_withS : Stmt := (top 44)
abbrev sc_law_withN : List Str := ["_law_node", "_law_kid_here", "_law_kids"]
abbrev sc_law_withP : List Str := ["_law_node", "_law_kid_here"]
theorem sc_law_with : FnScope sc_law_withN sc_law_withP (defScope sc_law_withS) := ⟨rfl, rfl, rfl, by decide +kernel, rfl, by decide +kernel, by decide +kernel⟩
abbrev sc_law_lessS : Stmt := (top 45)
abbrev sc_law_lessN : List Str := ["_law_node", "_law_label_here", "_law_kid_here"]
abbrev sc_law_lessP : List Str := ["_law_node", "_law_label_here"]
theorem sc_law_less : FnScope sc_law_lessN sc_law_lessP (defScope sc_law_lessS) := ⟨rfl, rfl, rfl, by decide +kernel, rfl, by decide +kernel, by decide +kernel⟩
section
variable {P : Program} {w : World} {K : PySem.W.Frag} {mg : Str → Option Value} {base : Heap}
theorem ok_law_with {f c tp : Addr} {fd : FuncData} {T : List (Addr × Str)} (D : DefC K mg "_law_with" sc_law_withS f fd c) (B : Bt mg) (TB : TabB base mg c tp) (hm : (tp, ("_law_with.<locals>.<lambda>" : Str)) ∈ T) (hu1 : ∀ p ∈ T, p.1 = tp → p.2 = ("_law_with.<locals>.<lambda>" : Str))
    (C_law_key : CallOk P w K mg base 1 "_law_key" sc_law_keyP spKey) : CallOk P w K mg base 5 "_law_with" sc_law_withP (spLWith T) := by
  refine D.call sc_law_with (fun vs H Q E h => ?_) (fun _ _ _ _ _ _ us hl => match us, hl with | [_, _], _ => rfl) (fun A outer s H vs Q E hr h => ?_)
  · obtain ⟨_, _, _, _, rfl, _⟩ := h
    rfl
  refine ⟨_, (pss_cons (ps_set (i := 2) sc_law_with.nd rfl (Or.inl rfl) (pe_callBK (cr_sortL (k := 2) hr) (by rfl) B.sorted (by decide +kernel) (pa_cons (pe_op op_cat (pe_callTy call_list_of (by rfl) B.list (by decide +kernel) (pa_cons (pe_ix (r := rIxT K) ix_tup (pv 0) pe_int (fun _ _ => rfl)) pa_nil)) (pe_lst (pa_cons (pv 1) pa_nil))) pa_nil) (pk_cons (pe_lam (T := T) (q := "_law_with.<locals>.<lambda>") TB rfl rfl hm hu1 rfl (by rfl)) pk_nil))) (pss_one (ps_ret (pe_tup (pa_cons (pe_ix (r := rIxT K) ix_tup (pv 0) pe_int (fun _ _ => rfl)) (pa_cons (pe_ix (r := rIxT K) ix_tup (pv 0) pe_int (fun _ _ => rfl)) (pa_cons (pe_callTy call_tuple_of (by rfl) B.tuple (by decide +kernel) (pa_cons (pv 2) pa_nil)) pa_nil))))))), ?_⟩
  obtain ⟨t, m, v, x, rfl, ht, hx, hwf, hml, hno, hlen, hT, q⟩ := h
  obtain ⟨a, w1, k, us, rfl, h1, h2, h3, h4⟩ := ht.parts
  refine ⟨_, rfl, _, _, _, _, rfl, rfl, SqT.of h1, atI_nat (j := 2) rfl, k, us, rfl, .inr (SqT.of h3), fun L hL => ⟨_, rfl, (by show 1 ≤ sizeLine; decide), fun M hM => ?_⟩⟩
  have s2 : Same H (upd (upd H L (.lst us)) M (.lst [x])) := (Same.new hL).trans (Same.new hM)
  refine ⟨L, M, us, [x], rfl, rfl, (Same.new hM) _ _ upd_same, upd_same, lenOk (by have := h4.len; show us.length + 1 ≤ 1000; omega), fun N hN => ?_⟩
  have s3 : Same H (upd (upd (upd H L (.lst us)) M (.lst [x])) N (.lst (us ++ [x]))) := s2.trans (Same.new hN)
  have hN3 : upd (upd (upd H L (.lst us)) M (.lst [x])) N (.lst (us ++ [x])) N = some (.lst (us ++ [x])) := upd_same
  generalize upd (upd (upd H L (.lst us)) M (.lst [x])) N (.lst (us ++ [x])) = H3 at s3 hN3 ⊢
  refine ⟨tabs_same hT s3, fun g c' H4 e4 t4 hg0 hg hc' => ?_⟩
  have hts : TsAt H4 (t.kids ++ [m]) (us ++ [x]) := ((h4.keep (.of s3)).keep (ext_tup e4)).app (.one ((hx.keep (.of s3)).keep (ext_tup e4)))
  have hpr := TsAt.paired.mp hts
  have labs : ∀ u ∈ t.kids ++ [m], IsLab u.lab := fun u hu => by
    rcases List.mem_append.mp hu with hu | hu
    · exact hwf.labs u hu
    · rw [List.mem_singleton.mp hu]
      exact hml
  have g34 : Gw T H H4 := (Gw.of s3).trans ⟨e4, fun _ => t4⟩
  refine ⟨N, g, _, spNK, us ++ [x], nkey H4, rfl, rfl, hg, hc', SqL.of (e4 _ _ hN3 fun ps z => by cases z), ?_, ?_, ?_⟩
  · refine lok_of (N := ["_law_one"]) (ps := ["_law_one"]) (fr := []) (ws := []) (NdefX.nscope_by (by rfl)) (fun vs H Q E h => ?_) (fun pm ctv us hl => match us, hl with | [_], _ => rfl) CellsB.nil (fun A2 outer2 s2 H3 vs3 Q3 hr3 h3 => ⟨_, pe_cal C_law_key hr3 (Nat.le_refl _) rfl (pa_cons (pe_ix (r := rIxT K) ix_tup (pv 0) pe_int (fun _ _ => rfl)) pa_nil), ?_⟩)
    · obtain ⟨_, _, rfl, _⟩ := h
      rfl
    · obtain ⟨u, y, rfl, hy, hlab, q3⟩ := h3
      obtain ⟨ya, _, _, _, rfl, y1, _⟩ := hy.open
      exact ⟨_, rfl, _, _, _, _, rfl, rfl, SqT.of y1, atI_nat (j := 0) rfl, _, rfl, hlab, q3⟩
  · intro y hy H5 s5 Q1 q1
    obtain ⟨u, hu, hyu⟩ := (paired_mem hpr).1 y hy
    refine ⟨u, y, rfl, hyu.keep (.of s5), labs u hu, fun r H6 s6 h6 => q1 r H6 s6 ?_⟩
    rw [h6]
    unfold nkey
    rw [nlab_eq hyu]
  · intro out p H5 s5 hp5 hperm hpw
    obtain ⟨ts, a1, a2⟩ := perm_pair hperm hpr
    have a3 : ts.Pairwise fun a b => ¬ klt (key b.lab) (key a.lab) := pairwise_pair (fun a b x y ha hb r z => r (by
      show kLt (nkey H4 b) (nkey H4 a)
      unfold nkey
      rw [nlab_eq ha, nlab_eq hb]
      exact kLt_key2.mpr z)) a1 hpw
    have e : ts = insK t.kids m := insK_only hwf.ord hwf.labs hml (kidOf_none.mp hno) a2 a3
    have s6 : Same H4 (upd H5 p (.lst out)) := s5.trans (Same.new hp5)
    have hout : TsAt (upd H5 p (.lst out)) (insK t.kids m) out := by
      rw [← e]
      exact (TsAt.paired.mpr a1).keep (.of s6)
    have g6 : Gw T H (upd H5 p (.lst out)) := g34.trans (Gw.of s6)
    refine ⟨_, rfl, _, _, _, _, rfl, rfl, SqT.of (g6.tup _ _ h1), atI_nat (j := 0) rfl, _, rfl, _, _, _, _, rfl, rfl, SqT.of (g6.tup _ _ h1), atI_nat (j := 1) rfl, _, rfl, p, out, rfl, .inl ⟨SqL.of upd_same, fun r hr1 => ⟨(by show 3 ≤ sizeLine; decide), fun z hz => ?_⟩⟩⟩
    have s7 := (Same.new (o := .tup out) hr1).trans (Same.new (o := .tup [.str t.lab, .ref w1, .ref r]) hz)
    exact q _ _ (g6.trans (Gw.of s7)) (TAt.mk2 upd_same ((h2.keep g6.tup).keep (.of s7)) ((Same.new hz) _ _ upd_same) (hout.keep (.of s7)))
theorem ok_law_less {f : Addr} {fd : FuncData} (D : DefAt K mg "_law_less" sc_law_lessS f fd) (B : Bt mg) : CallOk P w K mg base 1 "_law_less" sc_law_lessP spLess := by
  refine D.call sc_law_less (fun vs H Q E h => ?_) (fun _ _ _ _ _ _ us hl => match us, hl with | [_, _], _ => rfl) (fun cdv A outer s H vs Q E hr h => ?_)
  · obtain ⟨_, _, _, rfl, _⟩ := h
    rfl
  refine ⟨_, (pss_one (ps_ret (pe_tup (pa_cons (pe_ix (r := rIxT K) ix_tup (pv 0) pe_int (fun _ _ => rfl)) (pa_cons (pe_ix (r := rIxT K) ix_tup (pv 0) pe_int (fun _ _ => rfl)) (pa_cons (pe_callTy call_tuple_of (by rfl) B.tuple (by decide +kernel) (pa_cons (pe_lc (own := [("_law_kid_here", 2)]) (g := gName 2) rfl sc_law_less.nd (pi_tup (pe_ix (r := rIxT K) ix_tup (pv 0) pe_int (fun _ _ => rfl))) (blkOk_by (N := sc_law_lessN) (sc := defScope sc_law_lessS) (by decide +kernel)) (fun _ _ _ _ _ => pg_name (i := 2) sc_law_less.nd rfl (Or.inl rfl)) (fun _ _ _ _ _ => (pts_one (pt_cmpR op_ne (pe_ix (r := rIxT K) ix_tup (pv 2) pe_int (fun _ _ => rfl)) (pv 1) (nomark _)))) (fun _ _ _ _ _ => (pv 2))) pa_nil)) pa_nil)))))), ?_⟩
  obtain ⟨t, v, l, rfl, ht, hlen, q⟩ := h
  obtain ⟨a, w1, k, vs, rfl, h1, h2, h3, h4⟩ := ht.parts
  refine ⟨_, rfl, _, _, _, _, rfl, rfl, SqT.of h1, atI_nat (j := 0) rfl, _, rfl, _, _, _, _, rfl, rfl, SqT.of h1, atI_nat (j := 1) rfl, _, rfl, _, _, _, _, rfl, rfl, SqT.of h1, atI_nat (j := 2) rfl, _, rfl, ⟨_, SqT.of h3⟩, fun L hL => lc_pick (p := fun k => decide (k.lab ≠ l)) h3 h4 (by omega) hL (by show 2 < 3; decide) ?_ ?_⟩
  · intro kd z H' hm s3 hz R hR
    obtain ⟨d, w3, k3, vs3, rfl, e1, e2, e3, e4⟩ := hz.parts
    refine ⟨_, rfl, _, _, _, _, rfl, rfl, SqT.of e1, atI_nat (j := 0) rfl, _, rfl, rfl, _, rfl, ?_⟩
    have := hR H' (Same.refl _)
    have e : (!decide (V.str kd.lab = V.str l)) = decide (kd.lab ≠ l) := by simp
    rw [e]
    exact this
  · intro H3 as s3 hl has
    refine ⟨L, _, rfl, .inl ⟨SqL.of hl, fun U hU => ⟨(by show 3 ≤ sizeLine; decide), fun z hz => ?_⟩⟩⟩
    have s4 := (Same.new (o := .tup as) hU).trans (Same.new (o := .tup [.str t.lab, .ref w1, .ref U]) hz)
    exact q _ _ (s3.trans s4) (TAt.mk2 upd_same (h2.keep (.of (s3.trans s4))) ((Same.new hz) _ _ upd_same) (has.keep (.of s4)))
end
end Cm
end

section
/-! The law's _law_changed: the tree with a node changed by a lambda. -/
namespace Cm
open PySem PySem.Spec PyProof.Rows L2 LamX
/-- the lambda at g: it is asked at the node nd alone, and gives res -/
structure Form (P : Program) (w : World) (K : PySem.W.Frag) (mg : Str → Option Value) (base : Heap) (T : List (Addr × Str)) (kf : Nat) (H : Hp) (g : Addr) (nd res : Cm.T) (F : LF) (sp : Sp) : Prop where
  at_ : H g = some (LamO g F)
  code : H F.c = some (CodeO F.c F.qual)
  ok : LOk P w K mg base kf g F sp
  does : ∀ H1 x (Q1 : VK), Gw T H H1 → TAt H1 nd x → (∀ H2 y, Gw T H1 H2 → TAt H2 res y → Q1 y H2) → sp [x] H1 Q1 E0
theorem Form.keep {P : Program} {w : World} {K : PySem.W.Frag} {mg : Str → Option Value} {base : Heap} {T : List (Addr × Str)} {kf : Nat} {H H' : Hp} {g : Addr} {nd res : Cm.T} {F : LF} {sp : Sp} (f : Form P w K mg base T kf H g nd res F sp) (k : Gw T H H') : Form P w K mg base T kf H' g nd res F sp :=
  ⟨k.1 _ _ f.at_ (fun ps => lamO_ne ps), k.1 _ _ f.code (fun ps z => by
    have z' : HO.ext _ = HO.tbl ps := z
    cases z'), f.ok, fun H1 x Q1 k1 hx q => f.does H1 x Q1 (k.trans k1) hx q⟩
def spChg (P : Program) (w : World) (K : PySem.W.Frag) (mg : Str → Option Value) (base : Heap) (T : List (Addr × Str)) (kf n : Nat) : Sp := fun vs H Q _ => ∃ (t nd res : Cm.T) (pl : Pl) (v u : V) (g : Addr) (F : LF) (spf : Sp), vs = [v, u, .ref g] ∧ TAt H t v ∧ SAt H u pl ∧ Wf t ∧ Wd 1000 t ∧ nodeAt t pl = some nd ∧ pl.length < n ∧
  Form P w K mg base T kf H g nd res F spf ∧ ∀ H' y, Gw T H H' → TAt H' (chg (fun _ => res) t pl) y → Q y H'
theorem gw_put {T : List (Addr × Str)} {H H1 : Hp} {p : Addr} {o u : HO} (h : H p = none) (e : Gw T H H1) (hp : H1 p = some u) (hu : ∀ ps, u ≠ .tbl ps) (hu2 : ∀ c q, u ≠ CodeO c q) : Gw T H (upd H1 p o) :=
  ⟨ext_put h e.1, fun t => tabs_but (e.2 t) (keepX_put hp hu hu2)⟩
abbrev sc_law_changedS : Stmt := (top 43)
abbrev sc_law_changedN : List Str := ["_law_node", "_law_place_here", "_law_form", "_law_kids", "_law_kid_here"]
abbrev sc_law_changedP : List Str := ["_law_node", "_law_place_here", "_law_form"]
theorem sc_law_changed : FnScope sc_law_changedN sc_law_changedP (defScope sc_law_changedS) := ⟨rfl, rfl, rfl, by decide +kernel, rfl, by decide +kernel, by decide +kernel⟩
section
variable {P : Program} {w : World} {K : PySem.W.Frag} {mg : Str → Option Value} {base : Heap}
theorem ok_law_changed_step {f : Addr} {fd : FuncData} {n kf : Nat} {T : List (Addr × Str)} (D : DefAt K mg "_law_changed" sc_law_changedS f fd) (B : Bt mg) (C_law_changed : CallOk P w K mg base (kf + n + 1) "_law_changed" sc_law_changedP (spChg P w K mg base T kf n)) : CallOk P w K mg base (kf + n + 2) "_law_changed" sc_law_changedP (spChg P w K mg base T kf (n + 1)) := by
  refine D.call sc_law_changed (fun vs H Q E h => ?_) (fun _ _ _ _ _ _ us hl => match us, hl with | [_, _, _], _ => rfl) (fun cdv A outer s H vs Q E hr h => ?_)
  · obtain ⟨_, _, _, _, _, _, _, _, _, rfl, _⟩ := h
    rfl
  have hu64 := hr.units
  obtain ⟨t, nd, res, pl, v, u, g, F, spf, rfl, ht, hp, hwf, hw, hat, hn, hF, q⟩ := h
  have hlab := nodeAt_labs hwf hat
  refine ⟨_, (pss_cons (ps_if (pt_cmpR (r := rEqD K) (op_eqD hu64) (pv 1) (pe_tup pa_nil) (nomark _)) (pss_one (ps_ret (pe_callLam (i := 2) hF.ok (hr.mono (by omega)) rfl (Or.inl rfl) (pa_cons (pv 0) pa_nil)))) pss_nil) (pss_cons (ps_set (i := 3) sc_law_changed.nd rfl (Or.inl rfl) (pe_lst pa_nil)) (pss_cons (ps_for PassesOwn.never rfl (pi_tup (pe_ix (r := rIxT K) ix_tup (pv 0) pe_int (fun _ _ => rfl))) (pg_name (i := 4) sc_law_changed.nd rfl (Or.inl rfl)) (pss_one (ps_if (pt_cmpR op_eq (pe_ix (r := rIxT K) ix_tup (pv 4) pe_int (fun _ _ => rfl)) (pe_ix (r := rIxT K) ix_tup (pv 1) pe_int (fun _ _ => rfl)) (nomark _)) (pss_one (ps_expr (pe_bm PySem.F.plainAttrs_list PySem.F.slot_list_append PySem.F.type_list_append mt_append (pv 3) (pa_cons (pe_cal C_law_changed hr (Nat.le_refl _) rfl (pa_cons (pv 4) (pa_cons (pe_slice (r := rSlA K) sl_tupA (pv 1) (po_some pe_int) po_none) (pa_cons (pv 2) pa_nil)))) pa_nil)))) (pss_one (ps_expr (pe_bm PySem.F.plainAttrs_list PySem.F.slot_list_append PySem.F.type_list_append mt_append (pv 3) (pa_cons (pv 4) pa_nil))))))) (pss_one (ps_ret (pe_tup (pa_cons (pe_ix (r := rIxT K) ix_tup (pv 0) pe_int (fun _ _ => rfl)) (pa_cons (pe_ix (r := rIxT K) ix_tup (pv 0) pe_int (fun _ _ => rfl)) (pa_cons (pe_callTy call_tuple_of (by rfl) B.tuple (by decide +kernel) (pa_cons (pv 3) pa_nil)) pa_nil))))))))), ?_⟩
  refine ⟨_, rfl, eqP0 hp (labs_ok hlab) fun H1 s1 => ⟨_, rfl, ?_⟩⟩
  have hF1 := hF.keep (Gw.of s1)
  cases pl with
  | nil =>
    cases hat
    exact iteT ⟨rfl, hF1.at_, _, rfl, hF1.at_, hF1.code, hF1.does H1 _ _ (Gw.refl _ _) (ht.keep (.of s1)) fun H2 y k2 hy => q H2 y ((Gw.of s1).trans k2) hy⟩
  | cons a pl =>
    refine iteF ⟨Nat.zero_le _, fun L hL => ?_⟩
    obtain ⟨b, w1, kk, us, rfl, h1, h2, h3, h4⟩ := ht.parts
    obtain ⟨c, rfl, hc⟩ := hp
    have s2 : Same H (upd H1 L (.lst [])) := s1.trans (Same.new hL)
    have hL0 : H L = none := s1.free hL
    refine ⟨_, rfl, _, _, _, _, rfl, rfl, SqT.of (s2 _ _ h1), atI_nat (j := 2) rfl, _, rfl, ⟨_, SqT.of (s2 _ _ h3)⟩, for_tup (xs := us) (fun i σ H' => Gw T H H' ∧ ∃ o vs, σ = [some (.ref b), some (.ref c), some (.ref g), some (.ref L), o] ∧ H' L = some (.lst vs) ∧ TsAt H' ((t.kids.map fun k => if k.lab = a then chg (fun _ => res) k pl else k).take i) vs) ⟨Gw.of s2, _, _, rfl, upd_same, tsAt_nil.mpr rfl⟩ (fun i σ H' _ p => SqT.of (p.1.tup _ _ h3)) ?_ ?_⟩
    · rintro i y σ H' hi ⟨s3, o, vs, rfl, hl, hvs⟩
      obtain ⟨k, hk, ak⟩ := h4.get hi
      have ak3 := ak.keep s3.tup
      have hm := List.mem_of_getElem? hk
      obtain ⟨d, w2, k2, us2, rfl, e1, e2, e3, e4⟩ := ak3.open
      have hlen : vs.length < sizeLine := small1000 (by rw [hvs.len]; exact Nat.le_trans (List.length_take_le' _ _) (by rw [List.length_map]; exact hw.len))
      have put : ∀ (H2 : Hp) (z : V), Gw T H' H2 → TAt H2 (if k.lab = a then chg (fun _ => res) k pl else k) z → Gw T H (upd H2 L (.lst (vs ++ [z]))) ∧ ∃ o' vs', [some (V.ref b), some (V.ref c), some (.ref g), some (.ref L), some (.ref d)] = [some (V.ref b), some (.ref c), some (.ref g), some (.ref L), o'] ∧ upd H2 L (.lst (vs ++ [z])) L = some (.lst vs') ∧ TsAt (upd H2 L (.lst (vs ++ [z]))) ((t.kids.map fun k => if k.lab = a then chg (fun _ => res) k pl else k).take (i + 1)) vs' := by
        intro H2 z s4 hz
        have hl2 := s4.1 _ _ hl (fun ps z => by cases z)
        have tk : TupK H2 (upd H2 L (.lst (vs ++ [z]))) := .put hl2 fun _ z => by cases z
        refine ⟨gw_put hL0 (s3.trans s4) hl2 (fun ps z => by cases z) (fun _ _ z => by cases z), _, _, rfl, upd_same, ?_⟩
        rw [take_succ (x := if k.lab = a then chg (fun _ => res) k pl else k) (by rw [List.getElem?_map, hk]; rfl)]
        exact ((hvs.keep s4.tup).keep tk).app (.one (hz.keep tk))
      refine ⟨_, rfl, _, _, _, _, rfl, rfl, SqT.of e1, atI_nat (j := 0) rfl, _, rfl, _, _, _, _, rfl, rfl, SqT.of (s3.tup _ _ hc), atI_nat (j := 0) rfl, rfl, _, rfl, ?_⟩
      refine ite2 (fun z => ?_) (fun z => ?_)
      · have z := V.str.inj (of_decide_eq_true z)
        have hat2 : nodeAt k pl = some nd := by
          rw [nodeAt_cons, ← z, kidOf_mem hwf.ord hm] at hat
          exact hat
        refine ⟨_, rfl, tyV_lst hl, _, rfl, _, rfl, _, rfl, sl_tail (s3.tup _ _ hc) fun H2 u2 s4 hu2 => ?_⟩
        refine ⟨_, rfl, k, nd, res, pl, _, _, g, F, spf, rfl, ak3.keep (.of s4), hu2, hwf.kid k hm, hw.kid k hm, hat2, by rw [List.length_cons] at hn; omega, hF.keep (s3.trans (Gw.of s4)), fun H3 z3 s5 hz3 => ?_⟩
        have s45 := (Gw.of s4).trans s5
        refine ⟨L, vs, z3, rfl, rfl, s45.1 _ _ hl (fun ps z => by cases z), hlen, put H3 z3 s45 ?_⟩
        rw [if_pos z]
        exact hz3
      · have z : ¬ k.lab = a := fun e => z (decide_eq_true (by rw [e]))
        refine ⟨_, rfl, tyV_lst hl, _, rfl, L, vs, _, rfl, rfl, hl, hlen, put H' _ (Gw.refl _ _) ?_⟩
        rw [if_neg z]
        exact ak3
    · rintro σ H' ⟨s3, o, vs, rfl, hl, hvs⟩
      rw [h4.len, List.take_of_length_le (by rw [List.length_map]; exact Nat.le_refl _)] at hvs
      refine ⟨_, rfl, _, _, _, _, rfl, rfl, SqT.of (s3.tup _ _ h1), atI_nat (j := 0) rfl, _, rfl, _, _, _, _, rfl, rfl, SqT.of (s3.tup _ _ h1), atI_nat (j := 1) rfl, _, rfl, L, vs, rfl, .inl ⟨SqL.of hl, fun p hp => ⟨by show 3 ≤ sizeLine; decide, fun r hr2 => ?_⟩⟩⟩
      have s4 : Same H' (upd H' p (.tup vs)) := Same.new hp
      have s5 : Same (upd H' p (.tup vs)) (upd (upd H' p (.tup vs)) r (.tup [.str t.lab, .ref w1, .ref p])) := Same.new hr2
      have s45 := s4.trans s5
      refine q _ _ (s3.trans (Gw.of s45)) ?_
      rw [chg_cons]
      exact TAt.mk2 upd_same ((h2.keep s3.tup).keep (.of s45)) (s5 _ _ upd_same) (hvs.keep (.of s45))
end
end Cm
end

section
/-! The law's due tree: lambdas over this frame's cells, handed to _law_changed. -/
namespace Cm
open PySem PySem.Spec PyProof.Rows L2 LamX
/-- g(e, ..) as pe_callC, the callee told by its promise on every ground -/
theorem pe_callCC {X : Cx} {j k : Nat} {g : Addr} {ps : List Str} {sp : List (Option V) → Sp} {cl : List (Str × Addr)} {fr : List Str} {js : List Nat} {x : Str} {p pos : Pos} {e : Expr} {es : List Expr} {t : TA}
    (F : ∀ (B : Heap) (ws : List (Option V)), Mod X.K X.mg B → (∀ b o, X.base.get? b = some o → B.get? b = some o) → CellsB B cl fr ws → CallOk X.prog X.w X.K X.mg B j x ps (sp ws)) (cp : X.Ok → NdefX.Caps X cl fr js) (hfn : ∀ x, X.fn x = true) (hr : Room k X.A) (hj : j ≤ k) (hg : Gl X x) (hm : X.mg x = some (.ref g)) (hk : PySem.W.keepIn X.K (.ref g) = true)
    (ha : PA X (e :: es) t) (hdb : (x == ("__debug__" : Str)) = false := by decide) (he : starEach (e :: es) X.env = (false, eval e X.env) :: starEach es X.env := by rfl) (hpl : (backTo pos (starEach es X.env)).any (·.1) = false := by rfl) :
    PE X (.Call (.Name x p) (e :: es) [] pos) (tCallC sp js t) := by
  refine ⟨fun pins s σ H Q I h => ?_⟩
  refine wpAny_Call_Name_kw (ld_glob I hg hm ?_ hdb)
  refine PySem.W.callWith_K (h₀ := X.base) I.ok.mod.kin hk (thn (ha.run pos pins s σ H _ I h) fun us s1 ⟨vs, H1, I1, r, q⟩ => ⟨I1.kIn, ?_⟩) he hpl
  obtain ⟨B, e0, C, bk⟩ := ground_cells I1 (cp I1.ok).sub hfn (NdefX.cells_of I1 (cp I1.ok))
  obtain ⟨g', fd, F', hm', _, hb⟩ := (F B _ e0.mod bk C).ex
  obtain rfl : g' = g := by
    rw [hm] at hm'
    cases hm'
    rfl
  have hl : us.length = ps.length := by rw [← r.length]; exact F'.len _ _ _ _ q
  have hbt := hb s1 us I1.kIn (by rw [List.append_nil]; exact hl)
  rw [List.append_nil] at hbt
  show wpAny _ _ (call (.ref g') us) _ _ _
  refine wpAny_call (codeAny_mono (F'.run X.A X.stack s1 H1 ⟨us, []⟩ us vs Q E0 (hr.mono hj) e0 hbt r q) fun r s' hq => ?_)
  cases r with
  | error e => exact False.elim hq
  | ok fl =>
    cases fl with
    | ret u => exact I1.after hq
    | next => exact False.elim hq
    | brk => exact False.elim hq
    | cont => exact False.elim hq
theorem CallOk.imp {P : Program} {w : World} {K : PySem.W.Frag} {mg : Str → Option Value} {base : Heap} {k : Nat} {x : Str} {ps : List Str} {sp sp' : Sp} (C : CallOk P w K mg base k x ps sp) (h : ∀ vs H Q E, sp' vs H Q E → sp vs H Q E) : CallOk P w K mg base k x ps sp' := by
  obtain ⟨f, fd, F, a, b, c⟩ := C.ex
  exact ⟨f, fd, F.imp h, a, b, c⟩
/-! ### the three lambdas, by their places in the text -/
def noE : Expr := .Constant .none 0 ⟨0, 0, 0, 0⟩
def retArg (s : Stmt) (j : Nat) : Expr := match s with
  | .Return (some (.Call _ es _ _)) _ => es.getD j noE
  | _ => noE
def ifBody (s : Stmt) : Stmt := match s with
  | .If _ (b :: _) _ _ => b
  | _ => s
def lamP (e : Expr) : Arguments := match e with
  | .Lambda a _ _ _ => a
  | _ => { posonlyargs := [], args := [], vararg := none, kwonlyargs := [], kw_defaults := [], kwarg := none, defaults := [] }
def lamB (e : Expr) : Expr := match e with
  | .Lambda _ b _ _ => b
  | _ => noE
def lamS (e : Expr) : Scope := match e with
  | .Lambda _ _ s _ => s
  | _ => { kind := .function, names := [], isGenerator := false, isCoroutine := false }
abbrev sc_law_dueS : Stmt := (top 53)
abbrev sc_law_dueN : List Str := ["_law_tree_here", "_law_one", "_law_word_here", "_law_more", "_law_place_here"]
abbrev sc_law_dueP : List Str := ["_law_tree_here", "_law_one"]
theorem sc_law_due : FnScope sc_law_dueN sc_law_dueP (defScope sc_law_dueS) := ⟨rfl, rfl, rfl, by decide +kernel, rfl, by decide +kernel, by decide +kernel⟩
def dueE (i : Nat) : Expr := retArg (ifBody ((defBody sc_law_dueS).getD (i + 1) (.Pass ⟨0, 0, 0, 0⟩))) 2
abbrev dueQ : Str := "_law_due.<locals>.<lambda>"
def dueF (i : Nat) (cl : List (Str × Addr)) (c' : Addr) : LF := ⟨dueQ, lamP (dueE i), lamB (dueE i), lamS (dueE i), cl, c'⟩
def spL0 (ws : List (Option V)) : Sp := fun vs H Q _ => ∃ (t : T) (x m : V) (w : List Str), vs = [x] ∧ ws = [some m] ∧ TAt H t x ∧ SAt H m w ∧ ∀ H' y, Same H H' → TAt H' (fRead w t) y → Q y H'
def spL1 (T : List (Addr × Str)) (ws : List (Option V)) : Sp := fun vs H Q _ => ∃ (t n : Cm.T) (x m : V), vs = [x] ∧ ws = [some m] ∧ TAt H t x ∧ TAt H n m ∧ Wf t ∧ IsLab n.lab ∧ kidOf t.kids n.lab = none ∧ t.kids.length ≤ 900 ∧ Tabs T H ∧ ∀ H' y, Gw T H H' → TAt H' (fPut n t) y → Q y H'
def spL2 (ws : List (Option V)) : Sp := fun vs H Q _ => ∃ (t : T) (x m : V) (p : Pl), vs = [x] ∧ ws = [some m] ∧ TAt H t x ∧ SAt H m p ∧ p ≠ [] ∧ t.kids.length ≤ 900 ∧ ∀ H' y, Same H H' → TAt H' (fOut (lastLab p) t) y → Q y H'
section
variable {P : Program} {w : World} {K : PySem.W.Frag} {mg : Str → Option Value} {base : Heap}
theorem lam0 {g c' : Addr} {cl : List (Str × Addr)} {ws : List (Option V)} (C : CellsB base cl ["_law_more"] ws) : LOk P w K mg base 6 g (dueF 0 cl c') (spL0 ws) := by
  refine lok_of (k := 5) (N := ["_law_node", "_law_more"]) (ps := ["_law_node"]) (fr := ["_law_more"]) (ws := ws) (NdefX.nscope_by (by rfl)) (fun vs H Q E h => ?_) (fun pm ctv us hl => match us, hl with | [_], _ => rfl) C (fun A2 outer2 s2 H3 vs3 Q3 hr3 h3 => ⟨_, pe_tup (pa_cons (pe_ix (r := rIxT K) ix_tup (pv 0) pe_int (fun _ _ => rfl)) (pa_cons (pv 1) (pa_cons (pe_ix (r := rIxT K) ix_tup (pv 0) pe_int (fun _ _ => rfl)) pa_nil))), ?_⟩)
  · obtain ⟨_, _, _, _, rfl, _⟩ := h
    rfl
  · obtain ⟨t, x, m, wd, rfl, rfl, ht, hm, q⟩ := h3
    obtain ⟨a, w1, k, vs, rfl, h1, h2, h3, h4⟩ := ht.parts
    refine ⟨_, rfl, _, _, _, _, rfl, rfl, SqT.of h1, atI_nat (j := 0) rfl, _, rfl, _, rfl, _, _, _, _, rfl, rfl, SqT.of h1, atI_nat (j := 2) rfl, (by show 3 ≤ sizeLine; decide), fun p hp => ?_⟩
    have s1 := Same.new (o := .tup [.str t.lab, m, .ref k]) hp
    exact q _ _ s1 (TAt.mk2 upd_same (hm.keep (.of s1)) (s1 _ _ h3) (h4.keep (.of s1)))
theorem lam1 {g c' : Addr} {cl : List (Str × Addr)} {ws : List (Option V)} {T : List (Addr × Str)} (C : CellsB base cl ["_law_more"] ws) (C_law_with : CallOk P w K mg base 5 "_law_with" sc_law_withP (spLWith T)) : LOk P w K mg base 6 g (dueF 1 cl c') (spL1 T ws) := by
  refine lok_of (k := 5) (N := ["_law_node", "_law_more"]) (ps := ["_law_node"]) (fr := ["_law_more"]) (ws := ws) (NdefX.nscope_by (by rfl)) (fun vs H Q E h => ?_) (fun pm ctv us hl => match us, hl with | [_], _ => rfl) C (fun A2 outer2 s2 H3 vs3 Q3 hr3 h3 => ⟨_, pe_cal C_law_with hr3 (Nat.le_refl _) rfl (pa_cons (pv 0) (pa_cons (pv 1) pa_nil)), ?_⟩)
  · obtain ⟨_, _, _, _, rfl, _⟩ := h
    rfl
  · obtain ⟨t, n, x, m, rfl, rfl, ht, hm, h1, h2, h3, h4, h5, q⟩ := h3
    exact ⟨_, rfl, _, rfl, t, n, _, _, rfl, ht, hm, h1, h2, h3, h4, h5, q⟩
theorem lam2 {g c' : Addr} {cl : List (Str × Addr)} {ws : List (Option V)} (C : CellsB base cl ["_law_place_here"] ws) (C_law_less : CallOk P w K mg base 1 "_law_less" sc_law_lessP spLess) : LOk P w K mg base 6 g (dueF 2 cl c') (spL2 ws) := by
  refine lok_of (k := 5) (N := ["_law_node", "_law_place_here"]) (ps := ["_law_node"]) (fr := ["_law_place_here"]) (ws := ws) (NdefX.nscope_by (by rfl)) (fun vs H Q E h => ?_) (fun pm ctv us hl => match us, hl with | [_], _ => rfl) C (fun A2 outer2 s2 H3 vs3 Q3 hr3 h3 => ⟨_, pe_cal C_law_less hr3 (by decide) rfl (pa_cons (pv 0) (pa_cons (pe_ix (r := rIxT K) ix_tup (pv 1) (pe_un un_neg pe_int) (fun _ _ => rfl)) pa_nil)), ?_⟩)
  · obtain ⟨_, _, _, _, rfl, _⟩ := h
    rfl
  · obtain ⟨t, x, m, p, rfl, rfl, ht, ⟨ma, rfl, hma⟩, hne, hl, q⟩ := h3
    exact ⟨_, rfl, _, rfl, _, rfl, ix_last hma hne ⟨t, _, _, rfl, ht, hl, q⟩⟩
end
end Cm
end

section
/-! _law_due. -/
namespace Cm
open PySem PySem.Spec PyProof.Rows L2 LamX
def clo (L : Nat) (i : Nat) : List (Str × Addr) := cloFrom (cellsFrom (L + 1) (defScope sc_law_dueS).names []) (lamS (dueE i)).names []
def spD (T : List (Addr × Str)) (i : Nat) (cl : List (Str × Addr)) (Ok : List (Option V) → Hp → Cm.T → Cm.T → Prop) (ws : List (Option V)) : Sp := fun vs H Q _ => ∃ (t nd res : Cm.T) (pl : Pl) (v u : V) (g c' : Addr), vs = [v, u, .ref g] ∧ TAt H t v ∧ SAt H u pl ∧ Wf t ∧ Wd 900 t ∧ nodeAt t pl = some nd ∧ pl.length < 9 ∧
  H g = some (LamO g (dueF i cl c')) ∧ H c' = some (CodeO c' dueQ) ∧ Ok ws H nd res ∧ ∀ H' y, Gw T H H' → TAt H' (chg (fun _ => res) t pl) y → Q y H'
def Ok0 (ws : List (Option V)) (H : Hp) (nd res : T) : Prop := ∃ (m : V) (w : List Str), ws = [some m] ∧ SAt H m w ∧ res = fRead w nd
def Ok1 (T : List (Addr × Str)) (ws : List (Option V)) (H : Hp) (nd res : Cm.T) : Prop := ∃ (m : V) (n : Cm.T), ws = [some m] ∧ TAt H n m ∧ Wf nd ∧ IsLab n.lab ∧ kidOf nd.kids n.lab = none ∧ nd.kids.length ≤ 900 ∧ Tabs T H ∧ res = fPut n nd
def Ok2 (ws : List (Option V)) (H : Hp) (nd res : T) : Prop := ∃ (m : V) (p : Pl), ws = [some m] ∧ SAt H m p ∧ p ≠ [] ∧ nd.kids.length ≤ 900 ∧ res = fOut (lastLab p) nd
def spDue (T : List (Addr × Str)) : Sp := fun vs H Q _ => ∃ (t : Cm.T) (d : Dr) (v x : V), vs = [v, x] ∧ TAt H t v ∧ OneAt H d x ∧ Fit t d ∧ whyT t d = .fits ∧ Tabs T H ∧ ∀ H' y, Gw T H H' → TAt H' (resT t d) y → Q y H'
section
variable {P : Program} {w : World} {K : PySem.W.Frag} {mg : Str → Option Value} {base : Heap}
theorem due_imp {T : List (Addr × Str)} {i : Nat} {cl : List (Str × Addr)} {Ok : List (Option V) → Hp → Cm.T → Cm.T → Prop} {ws : List (Option V)} {spf : Sp} (L : ∀ g c', LOk P w K mg base 6 g (dueF i cl c') spf)
    (does : ∀ H nd res, Ok ws H nd res → ∀ H1 x (Q1 : VK), Gw T H H1 → TAt H1 nd x → (∀ H2 y, Gw T H1 H2 → TAt H2 res y → Q1 y H2) → spf [x] H1 Q1 E0) (C : CallOk P w K mg base 16 "_law_changed" sc_law_changedP (spChg P w K mg base T 6 9)) :
    CallOk P w K mg base 16 "_law_changed" sc_law_changedP (spD T i cl Ok ws) := C.imp fun vs H Q E h => by
  obtain ⟨t, nd, res, pl, v, u, g, c', rfl, ht, hu, hw, hd, hn, hl, hg, hc, hok, q⟩ := h
  exact ⟨t, nd, res, pl, v, u, g, _, spf, rfl, ht, hu, hw, wd1000 hd, hn, hl, ⟨hg, hc, L g c', does H nd res hok⟩, q⟩
theorem ok_law_due {f c tp g : Addr} {fd : FuncData} {T : List (Addr × Str)} (D : DefC K mg "_law_due" sc_law_dueS f fd c) (TB : TabB base mg c tp) (hm : (tp, dueQ) ∈ T) (hu1 : ∀ p ∈ T, p.1 = tp → p.2 = dueQ) (gch : mg "_law_changed" = some (.ref g)) (kch : PySem.W.keepIn K (.ref g) = true)
    (Cc : ∀ B : Heap, Mod K mg B → (∀ b o, base.get? b = some o → B.get? b = some o) → CallOk P w K mg B 16 "_law_changed" sc_law_changedP (spChg P w K mg B T 6 9))
    (Cw : ∀ B : Heap, Mod K mg B → (∀ b o, base.get? b = some o → B.get? b = some o) → CallOk P w K mg B 5 "_law_with" sc_law_withP (spLWith T))
    (Cl : ∀ B : Heap, Mod K mg B → (∀ b o, base.get? b = some o → B.get? b = some o) → CallOk P w K mg B 1 "_law_less" sc_law_lessP spLess) : CallOk P w K mg base 17 "_law_due" sc_law_dueP (spDue T) := by
  refine D.call sc_law_due (fun vs H Q E h => ?_) (fun _ _ _ _ _ _ us hl => match us, hl with | [_, _], _ => rfl) (fun A outer s H vs Q E hr h => ?_)
  · obtain ⟨_, _, _, _, rfl, _⟩ := h
    rfl
  have F0 : ∀ (B : Heap) (ws : List (Option V)), Mod K mg B → (∀ b o, base.get? b = some o → B.get? b = some o) → CellsB B (clo s.heap.objs.size 0) ["_law_more"] ws → CallOk P w K mg B 16 "_law_changed" sc_law_changedP (spD T 0 (clo s.heap.objs.size 0) Ok0 ws) := fun B ws hM bk hC =>
    due_imp (spf := spL0 ws) (fun g c' => lam0 hC) (fun H nd res hok H1 x Q1 k hx q1 => by
      obtain ⟨m, wd, rfl, hmw, rfl⟩ := hok
      exact ⟨nd, x, m, wd, rfl, rfl, hx, hmw.keep k.tup, fun H' y s hy => q1 H' y (Gw.of s) hy⟩) (Cc B hM bk)
  have F1 : ∀ (B : Heap) (ws : List (Option V)), Mod K mg B → (∀ b o, base.get? b = some o → B.get? b = some o) → CellsB B (clo s.heap.objs.size 1) ["_law_more"] ws → CallOk P w K mg B 16 "_law_changed" sc_law_changedP (spD T 1 (clo s.heap.objs.size 1) (Ok1 T) ws) := fun B ws hM bk hC =>
    due_imp (spf := spL1 T ws) (fun g c' => lam1 hC (Cw B hM bk)) (fun H nd res hok H1 x Q1 k hx q1 => by
      obtain ⟨m, n, rfl, hmn, a1, a2, a3, a4, a5, rfl⟩ := hok
      exact ⟨nd, n, x, m, rfl, rfl, hx, hmn.keep k.tup, a1, a2, a3, a4, k.2 a5, fun H' y s hy => q1 H' y s hy⟩) (Cc B hM bk)
  have F2 : ∀ (B : Heap) (ws : List (Option V)), Mod K mg B → (∀ b o, base.get? b = some o → B.get? b = some o) → CellsB B (clo s.heap.objs.size 2) ["_law_place_here"] ws → CallOk P w K mg B 16 "_law_changed" sc_law_changedP (spD T 2 (clo s.heap.objs.size 2) Ok2 ws) := fun B ws hM bk hC =>
    due_imp (spf := spL2 ws) (fun g c' => lam2 hC (Cl B hM bk)) (fun H nd res hok H1 x Q1 k hx q1 => by
      obtain ⟨m, p, rfl, hmp, a1, a2, rfl⟩ := hok
      exact ⟨nd, x, m, p, rfl, rfl, hx, hmp.keep k.tup, a1, a2, fun H' y s hy => q1 H' y (Gw.of s) hy⟩) (Cc B hM bk)
  refine ⟨_, (pss_cons (ps_asg (pv 1) (pg_tup rfl (pgs_cons (pg_name (i := 2) sc_law_due.nd rfl (Or.inl rfl)) (pgs_cons (pg_name (i := 4) sc_law_due.nd rfl (Or.inr rfl)) (pgs_cons (pg_name (i := 3) sc_law_due.nd rfl (Or.inr rfl)) pgs_nil))))) (pss_cons (ps_if (pt_cmpR op_eq (pv 2) pe_str (nomark _)) (pss_one (ps_ret (pe_callCC (j := 16) (cl := clo s.heap.objs.size 0) (fr := ["_law_more"]) (js := [3]) (sp := spD T 0 (clo s.heap.objs.size 0) Ok0) F0 (fun ok => NdefX.Caps.made (scope := lamS (dueE 0)) ok (free_of (by rfl)) (by decide +kernel) rfl) (fun _ => rfl) hr (by decide) rfl gch kch (pa_cons (pv 0) (pa_cons (pv 4) (pa_cons (pe_lam (T := T) (q := dueQ) TB rfl rfl hm hu1 rfl (by rfl)) pa_nil)))))) pss_nil) (pss_cons (ps_if (pt_cmpR op_eq (pv 2) pe_str (nomark _)) (pss_one (ps_ret (pe_callCC (j := 16) (cl := clo s.heap.objs.size 1) (fr := ["_law_more"]) (js := [3]) (sp := spD T 1 (clo s.heap.objs.size 1) (Ok1 T)) F1 (fun ok => NdefX.Caps.made (scope := lamS (dueE 1)) ok (free_of (by rfl)) (by decide +kernel) rfl) (fun _ => rfl) hr (by decide) rfl gch kch (pa_cons (pv 0) (pa_cons (pv 4) (pa_cons (pe_lam (T := T) (q := dueQ) TB rfl rfl hm hu1 rfl (by rfl)) pa_nil)))))) pss_nil) (pss_one (ps_ret (pe_callCC (j := 16) (cl := clo s.heap.objs.size 2) (fr := ["_law_place_here"]) (js := [4]) (sp := spD T 2 (clo s.heap.objs.size 2) Ok2) F2 (fun ok => NdefX.Caps.made (scope := lamS (dueE 2)) ok (free_of (by rfl)) (by decide +kernel) rfl) (fun _ => rfl) hr (by decide) rfl gch kch (pa_cons (pv 0) (pa_cons (pe_slice (r := rSlA K) sl_tupA (pv 4) po_none (po_some (pe_un un_neg pe_int))) (pa_cons (pe_lam (T := T) (q := dueQ) TB rfl rfl hm hu1 rfl (by rfl)) pa_nil))))))))), ?_⟩
  obtain ⟨t, d, v, x, rfl, ht, ⟨a, u, y, rfl, ha, hp, hy⟩, hf, hw, hT, q⟩ := h
  obtain ⟨nd, hn⟩ := why_node hw
  have hpl := hf.2.2.2.pl
  refine ⟨_, rfl, a, _, rfl, SqT.of ha, rfl, _, _, rfl, _, _, rfl, _, _, rfl, rfl, ?_⟩
  cases d with
  | read p ws =>
    have hn : nodeAt t p = some nd := hn
    refine ⟨_, rfl, rfl, _, rfl, iteT ⟨_, rfl, _, rfl, hT, fun g1 c' H1 e1 t1 hg0 hg hc => ?_⟩⟩
    have k1 : Gw T H H1 := ⟨e1, fun _ => t1⟩
    refine ⟨t, nd, _, p, _, _, g1, c', rfl, ht.keep k1.tup, hp.keep k1.tup, hf.1, hf.2.1, hn, by have := hpl.1; exact Nat.lt_succ_of_le this, hg, hc, ⟨y, ws, rfl, SAt.keep k1.tup hy, rfl⟩, fun H' z k hz => q H' z (k1.trans k) ?_⟩
    show TAt H' (chg (fRead ws) t p) z
    rw [← chg_const hf.1 hn]
    exact hz
  | put p n =>
    have hn : nodeAt t p = some nd := hn
    have okn : NdOk n := hf.2.2.2.2
    refine ⟨_, rfl, rfl, _, rfl, iteF ⟨_, rfl, rfl, _, rfl, iteT ⟨_, rfl, _, rfl, hT, fun g1 c' H1 e1 t1 hg0 hg hc => ?_⟩⟩⟩
    have k1 : Gw T H H1 := ⟨e1, fun _ => t1⟩
    refine ⟨t, nd, _, p, _, _, g1, c', rfl, ht.keep k1.tup, hp.keep k1.tup, hf.1, hf.2.1, hn, by have := hpl.1; exact Nat.lt_succ_of_le this, hg, hc, ⟨y, n, rfl, TAt.keep k1.tup n hy, nodeAt_wf hf.1 hn, okn.lab, (why_put hn hw).1, (wd_at hf.2.1 hn).len, t1, rfl⟩, fun H' z k hz => q H' z (k1.trans k) ?_⟩
    show TAt H' (chg (fPut n) t p) z
    rw [← chg_const hf.1 hn]
    exact hz
  | out p =>
    obtain ⟨hne, up, hup, hpe⟩ := why_out hw
    obtain ⟨ua, rfl, hua⟩ := hp
    refine ⟨_, rfl, rfl, _, rfl, iteF ⟨_, rfl, rfl, _, rfl, iteF ⟨_, rfl, _, rfl, _, rfl, _, rfl, sl_init (pl := p) hua fun H2 u2 s2 hu2 => ⟨tabs_same hT s2, fun g1 c' H1 e1 t1 hg0 hg hc => ?_⟩⟩⟩⟩
    have k1 : Gw T H H1 := (Gw.of s2).trans ⟨e1, fun _ => t1⟩
    have hdl : p.dropLast.length < 9 := by
      rw [List.length_dropLast]
      have : p.length ≤ 8 := hpl.1
      omega
    refine ⟨t, up, _, p.dropLast, _, _, g1, c', rfl, ht.keep k1.tup, hu2.keep (ext_tup e1), hf.1, hf.2.1, hup, hdl, hg, hc, ⟨.ref ua, p, rfl, ⟨ua, rfl, k1.tup _ _ hua⟩, hne, (wd_at hf.2.1 hup).len, rfl⟩, fun H' z k hz => q H' z (k1.trans k) ?_⟩
    show TAt H' (chg (fOut (lastLab p)) t p.dropLast) z
    rw [← chg_const hf.1 hup]
    exact hz
end
end Cm
end

section
/-! The law. -/
namespace Cm
open PySem PySem.Spec PyProof.Rows L2 LamX
def PastAt (c : Cs) (H : Hp) (v : V) (d : Dr) : Prop := ∃ (p : Addr) (x ch : V), v = .ref p ∧ H p = some (.tup [x, ch]) ∧ OneAt H d x ∧ ChAt c H d ch
theorem PastAt.keep {c : Cs} {H H' : Hp} {v : V} {d : Dr} (k : TupK H H') (i : InsK H H') (h : PastAt c H v d) : PastAt c H' v d := by
  obtain ⟨p, x, ch, rfl, h1, h2, h3⟩ := h
  exact ⟨p, x, ch, rfl, k _ _ h1, h2.keep k, h3.keep k i⟩
theorem insK_ext {H H' : Hp} (e : ExtN H H') : InsK H H' := fun b C dx fs h => e b _ h fun ps z => by cases z
theorem seq_ext {K : PySem.W.Frag} {H H' : Hp} {a : Addr} {xs : List V} (e : ExtN H H') (h : SqL K H a xs) : SqL K H' a xs := by
  rcases h with (h | ⟨o, h⟩) | h
  · exact .inl (.inl (e _ _ h fun ps z => by cases z))
  · exact .inl (.inr ⟨o, e _ _ h fun ps z => by cases z⟩)
  · exact .inr h
/-- where the law stands between its turns -/
structure LS (K : PySem.W.Frag) (T : List (Addr × Str)) (c : Cs) (a M : Addr) (ns : List Int) (i j : Nat) (H : Hp) (N : Nd) (t : Cm.T) (d : Addr) (y : V) (us : List V) (ps : List Dr) : Prop where
  seqM : ∀ o, SqL K (upd H M o) a (ns.map V.int)
  tabs : Tabs T H
  dict : DAt H d N
  tree : TAt H t y
  stn : Stn i N t
  lst : H M = some (.lst us)
  past : Paired (PastAt c H) us ps
  oks : ∀ d ∈ ps, d.Ok
  len : us.length = j
section
variable {K : PySem.W.Frag} {T : List (Addr × Str)} {c : Cs} {a M d : Addr} {ns : List Int} {i j : Nat} {H H' : Hp} {N : Nd} {t : Cm.T} {y : V} {us : List V} {ps : List Dr}
theorem DAt.ext (e : ExtN H H') (h : DAt H d N) : DAt H' d N := by
  obtain ⟨kvs, h1, h2⟩ := h
  exact ⟨kvs, e _ _ h1 (fun ps z => by cases z), h2.keep (ext_tup e)⟩
theorem upd_same' {o : HO} (h : H M = some o) : upd H M o = H := by
  funext b
  by_cases z : b = M
  · rw [z, upd_same, h]
  · rw [upd_ne z]
theorem upd_twice {o o' : HO} : upd (upd H M o) M o' = upd H M o' := by
  funext b
  by_cases z : b = M
  · rw [z, upd_same, upd_same]
  · rw [upd_ne z, upd_ne z, upd_ne z]
theorem ext_upd {o : HO} (e : ExtN H H') : ExtN (upd H M o) (upd H' M o) := fun b u h n => by
  by_cases z : b = M
  · rw [z, upd_same] at h ⊢
    exact h
  · rw [upd_ne z] at h ⊢
    exact e b u h n
theorem LS.seq (s : LS K T c a M ns i j H N t d y us ps) : SqL K H a (ns.map V.int) := by
  have := s.seqM (.lst us)
  rw [upd_same' s.lst] at this
  exact this
theorem LS.gw (k : Gw T H H') (s : LS K T c a M ns i j H N t d y us ps) : LS K T c a M ns i j H' N t d y us ps :=
  ⟨fun o => seq_ext (ext_upd k.1) (s.seqM o), k.2 s.tabs, s.dict.ext k.1, s.tree.keep k.tup, s.stn, k.1 _ _ s.lst (fun ps z => by cases z), Paired.mono (fun _ _ h => h.keep k.tup (insK_ext k.1)) s.past, s.oks, s.len⟩
theorem LS.fit {dr : Dr} (s : LS K T c a M ns i j H N t d y us ps) (hi : i ≤ 42) (ok : dr.Ok) : Fit t dr := ⟨s.stn.wf, s.stn.wd.mono (by omega) t, s.stn.deep, ok⟩
theorem LS.wfN (s : LS K T c a M ns i j H N t d y us ps) : WfN N := Rep.wfN s.stn
theorem LS.nlen (s : LS K T c a M ns i j H N t d y us ps) (hi : i ≤ 42) : N.length ≤ 80000 := by
  have := s.stn.len
  omega
theorem LS.why {dr : Dr} (s : LS K T c a M ns i j H N t d y us ps) : whyN N dr = whyT t dr := why_same s.stn.rep dr
end
theorem but_at {d x : Addr} {H H' : Hp} {u o : HO} (b : But d H H') (hd : H d = some u) (h : H x = some o) (ho : o ≠ u) : H' x = some o := b x o (fun z => by rw [z, hd] at h; exact ho (Option.some.inj h).symm) h
theorem seq_but {K : PySem.W.Frag} {d a : Addr} {H H' : Hp} {kvs : List (List Key × V)} {xs : List V} (b : But d H H') (hd : H d = some (.dT kvs)) (h : SqL K H a xs) : SqL K H' a xs := by
  rcases h with (h | ⟨o, h⟩) | h
  · exact .inl (.inl (but_at b hd h (by intro z; cases z)))
  · exact .inl (.inr ⟨o, but_at b hd h (by intro z; cases z)⟩)
  · exact .inr h
def spLaw (K : PySem.W.Frag) (T : List (Addr × Str)) : Sp := fun vs H Q _ => ∃ (a : Addr) (ns : List Int), vs = [.ref a] ∧ SqL K H a (ns.map V.int) ∧ ns.length ≤ 63 ∧ Tabs T H ∧ ∀ H', Q (.bl true) H'
theorem empty_ok : PyData.strOk Str.empty = true := by decide +kernel
abbrev sc_lawS : Stmt := (top 56)
abbrev sc_lawN : List Str := ["_law_script", "_law_nodes_here", "_law_tree_here", "_law_past", "_law_k", "_law_one", "_law_change", "_law_why_here", "_law_due_here"]
abbrev sc_lawP : List Str := ["_law_script"]
theorem sc_law : FnScope sc_lawN sc_lawP (defScope sc_lawS) := ⟨rfl, rfl, rfl, by decide +kernel, rfl, by decide +kernel, by decide +kernel⟩
section
variable {P : Program} {w : World} {K : PySem.W.Frag} {mg : Str → Option Value} {base : Heap} {c : Cs} {N : Addr}
theorem ok_law {f : Addr} {fd : FuncData} {T : List (Addr × Str)} (D : DefAt K mg "law" sc_lawS f fd) (B : Bt mg) (S : Chs P w K mg base c) (Dn : Dns P w K mg base c N)
    (C_law_nodes : CallOk P w K mg base 3 "_law_nodes" sc_law_nodesP (spNodes K)) (C_law_tree : CallOk P w K mg base 14 "_law_tree" sc_law_treeP (spTree K T 9)) (C_law_drawn : CallOk P w K mg base 16 "_law_drawn" sc_law_drawnP (spDrawn K T))
    (C_law_made : CallOk P w K mg base 3 "_law_made" sc_law_madeP (spMk c)) (C_law_why : CallOk P w K mg base 11 "_law_why" sc_law_whyP spWhy) (C_law_fields : CallOk P w K mg base 21 "_law_fields" sc_law_fieldsP (spFields c)) (C_law_says : CallOk P w K mg base 22 "_law_says" sc_law_saysP (spSays c))
    (C_law_due : CallOk P w K mg base 17 "_law_due" sc_law_dueP (spDue T)) (C_law_noted : CallOk P w K mg base 10 "_law_noted" sc_law_notedP spNoted) (C_law_same : CallOk P w K mg base 20 "_law_same" sc_law_sameP (spSame 19)) : FnOk P w K mg base CX0 23 f fd sc_lawP (spLaw K T) := by
  refine D.F.ok sc_law (fun vs H Q E h => ?_) (fun cdv A outer s H vs Q E hr h => ?_)
  · obtain ⟨_, _, rfl, _⟩ := h
    rfl
  have hu64 := hr.units
  refine ⟨_, (pss_cons (ps_set (i := 1) sc_law.nd rfl (Or.inl rfl) (pe_cal C_law_nodes hr (by decide) rfl (pa_cons (pe_slice (r := rSlL K) sl_list (pv 0) (po_some pe_int) (po_some pe_int)) pa_nil))) (pss_cons (ps_set (i := 2) sc_law.nd rfl (Or.inl rfl) (pe_cal C_law_tree hr (by decide) rfl (pa_cons (pv 1) (pa_cons (pe_tup pa_nil) pa_nil)))) (pss_cons (ps_set (i := 3) sc_law.nd rfl (Or.inl rfl) (pe_lst pa_nil)) (pss_cons (ps_for PassesOwn.never rfl (pi_range2 rfl B.range (pa_cons pe_int (pa_cons (pe_callB (call_min2 rfl) (by rfl) B.min (by decide +kernel) (pa_cons (pe_callB (r := Evl.rLenS K) call_len_seq (by rfl) B.len PySem.boot_len (pa_cons (pv 0) pa_nil)) (pa_cons pe_int pa_nil))) pa_nil))) (pg_name (i := 4) sc_law.nd rfl (Or.inl rfl)) (pss_cons (ps_set (i := 5) sc_law.nd rfl (Or.inl rfl) (pe_cal C_law_drawn hr (by decide) rfl (pa_cons (pv 0) (pa_cons (pv 4) (pa_cons (pv 1) pa_nil))))) (pss_cons (ps_set (i := 6) sc_law.nd rfl (Or.inl rfl) (pe_cal C_law_made hr (by decide) rfl (pa_cons (pv 5) pa_nil))) (pss_cons (ps_set (i := 7) sc_law.nd rfl (Or.inl rfl) (pe_cal C_law_why hr (by decide) rfl (pa_cons (pv 5) (pa_cons (pv 1) pa_nil)))) (pss_cons (ps_if (PW.pt (pw_or (pt_not (pt_val (pe_cal C_law_fields hr (by decide) rfl (pa_cons (pv 6) (pa_cons (pv 5) pa_nil))))) (pw_or1 (pt_not (pt_val (pe_cal C_law_says hr (by decide) rfl (pa_cons (pv 6) (pa_cons (pv 2) (pa_cons (pv 7) pa_nil))))))))) (pss_one (ps_ret pe_bl)) pss_nil) (Evl.pss_cut (ps_if (pt_cmpR op_isN (pv 7) pe_non (nomark _)) (pss_cons (ps_set (i := 8) sc_law.nd rfl (Or.inl rfl) (pe_cal C_law_due hr (by decide) rfl (pa_cons (pv 2) (pa_cons (pv 5) pa_nil)))) (pss_cons (ps_set (i := 2) sc_law.nd rfl (Or.inl rfl) (pe_doneE (E := fun _ => E0) S.ok Dn (pv 6) hr (by decide) (fun σ => passAt0 σ) (pa_cons (pv 2) pa_nil))) (pss_cons (ps_set (i := 1) sc_law.nd rfl (Or.inl rfl) (pe_cal C_law_noted hr (by decide) rfl (pa_cons (pv 1) (pa_cons (pv 5) pa_nil)))) (pss_one (ps_if (pt_cmpR (r := rNeD K) (op_neD hu64) (pv 2) (pv 8) (nomark _)) (pss_one (ps_ret pe_bl)) pss_nil))))) pss_nil) (pss_cons (ps_expr (pe_bm PySem.F.plainAttrs_list PySem.F.slot_list_append PySem.F.type_list_append mt_append (pv 3) (pa_cons (pe_tup (pa_cons (pv 5) (pa_cons (pv 6) pa_nil))) pa_nil))) (pss_cons (ps_asg (pe_ix (r := rIxL K) ix_list (pv 3) (pe_op op_mod (pe_op op_fdiv (pe_ix (r := rIxL K) ix_list (pv 0) (pv 4) (fun _ _ => rfl)) pe_int) (pe_callB (r := Evl.rLenS K) call_len_seq (by rfl) B.len PySem.boot_len (pa_cons (pv 3) pa_nil))) (fun _ _ => rfl)) (pg_tup rfl (pgs_cons (pg_name (i := 5) sc_law.nd rfl (Or.inl rfl)) (pgs_cons (pg_name (i := 6) sc_law.nd rfl (Or.inl rfl)) pgs_nil)))) (pss_cons (ps_set (i := 7) sc_law.nd rfl (Or.inl rfl) (pe_cal C_law_why hr (by decide) rfl (pa_cons (pv 5) (pa_cons (pv 1) pa_nil)))) (pss_one (ps_if (PW.pt (pw_or (pt_not (pt_val (pe_cal C_law_says hr (by decide) rfl (pa_cons (pv 6) (pa_cons (pv 2) (pa_cons (pv 7) pa_nil)))))) (pw_or1 (PW.pt (pw_and (pt_cmpR op_isN (pv 7) pe_non (nomark _)) (pw_and1 (pt_cmpR (r := rNeD K) (op_neD hu64) (pe_doneE (E := fun _ => E0) S.ok Dn (pv 6) hr (by decide) (fun σ => passAt0 σ) (pa_cons (pv 2) pa_nil)) (pe_cal C_law_due hr (by decide) rfl (pa_cons (pv 2) (pa_cons (pv 5) pa_nil))) (nomark _)))))))) (pss_one (ps_ret pe_bl)) pss_nil))))))))))) (pss_one (ps_ret (pe_cal C_law_same hr (by decide) rfl (pa_cons (pv 2) (pa_cons (pe_cal C_law_tree hr (by decide) rfl (pa_cons (pv 1) (pa_cons (pe_tup pa_nil) pa_nil))) pa_nil))))))))), ?_⟩
  obtain ⟨a, ns, rfl, hS, hns, hT, q⟩ := h
  refine ⟨_, rfl, _, rfl, _, rfl, a, _, rfl, hS, fun L hL => ?_⟩
  have ecut : cutV (ns.map V.int) (some 6) (some 26) = ((ns.drop (min 6 ns.length)).take (min 26 ns.length - min 6 ns.length)).map V.int := by
    unfold cutV
    rw [show (some (6 : Int)) = some ((6 : Nat) : Int) from rfl, show (some (26 : Int)) = some ((26 : Nat) : Int) from rfl, HT.sIx_nat, HT.sIx_nat, List.length_map, List.map_take, List.map_drop]
  have hlen : ((ns.drop (min 6 ns.length)).take (min 26 ns.length - min 6 ns.length)).length ≤ 20 := by
    rw [List.length_take]
    omega
  have s0 : ∀ {xs : List V}, Same H (upd H L (.lst xs)) := Same.new hL
  refine ⟨L, _, rfl, SqL.of (by rw [upd_same]; exact congrArg (fun l => some (HO.lst l)) ecut), hlen, fun H1 d N1 s1 hd1 hD W hN => ?_⟩
  have s01 : Same H H1 := s0.trans s1
  refine ⟨_, rfl, Nat.zero_le _, fun p hp => ?_⟩
  have s2 : Same H1 (upd H1 p (.tup [])) := Same.new hp
  refine ⟨d, N1, [], .ref p, rfl, hD.same s2, ⟨p, rfl, upd_same⟩, W, W.root, by omega, (by decide), tabs_same hT (s01.trans s2), fun H2 y t e2 t2 hy tr => ?_⟩
  refine ⟨Nat.zero_le _, fun M hM => ?_⟩
  have g3 : Gw T H (upd H2 M (.lst [])) := (Gw.of (s01.trans s2)).trans (Gw.trans ⟨e2, fun _ => t2⟩ (Gw.of (Same.new hM)))
  have s3 : Same H2 (upd H2 M (.lst [])) := Same.new hM
  have L0 : LS K T c a M ns 0 0 (upd H2 M (.lst [])) N1 t d y [] [] := ⟨fun o => by
    rw [upd_twice]
    exact seq_ext (((ExtN.of (s01.trans s2)).trans e2).trans (ExtN.of (Same.new hM))) hS, g3.2 hT, ((hD.same s2).ext e2).same s3, hy.keep (.of s3), stn_first W tr (by omega) (by omega), upd_same, .nil, fun d h => (by cases h), rfl⟩
  refine ⟨_, rfl, a, _, rfl, .inl L0.seq, _, _, rfl, _, _, rfl, ?_⟩
  have hm : (if (48 : Int) < ((ns.map V.int).length : Nat) then (48 : Int) else ((ns.map V.int).length : Nat)) ≤ 48 ∧ (if (48 : Int) < ((ns.map V.int).length : Nat) then (48 : Int) else ((ns.map V.int).length : Nat)) ≤ ns.length ∧ 0 ≤ (if (48 : Int) < ((ns.map V.int).length : Nat) then (48 : Int) else ((ns.map V.int).length : Nat)) := by
    rw [List.length_map]
    split <;> omega
  generalize (if (48 : Int) < ((ns.map V.int).length : Nat) then (48 : Int) else ((ns.map V.int).length : Nat)) = m at hm ⊢
  obtain ⟨m1, m2, m3⟩ := hm
  refine ⟨by omega, for_range (lo := 6) (n := (m - 6).toNat) (fun i σ H' => ∃ N t d y us ps o4 o5 o6 o7 o8, LS K T c a M ns i i H' N t d y us ps ∧ σ = [some (.ref a), some (.ref d), some y, some (.ref M), o4, o5, o6, o7, o8]) ⟨_, _, _, _, _, _, none, none, none, none, none, L0, rfl⟩ ?_ ?_⟩
  · rintro i σ H3 hi ⟨N, t, d, y, us, ps, o4, o5, o6, o7, o8, LS3, rfl⟩
    have hi42 : i < 42 := by omega
    have hk : 6 + i < ns.length := by omega
    have ek : (6 : Int) + (i : Int) = ((6 + i : Nat) : Int) := by omega
    rw [ek]
    -- drawn, made, why
    refine ⟨_, rfl, _, rfl, _, rfl, a, d, 6 + i, ns, N, rfl, LS3.seq, hk, LS3.dict, LS3.wfN, LS3.tabs, fun H4 x dr e4 t4 hx ok => ?_⟩
    have LS4 := LS3.gw ⟨e4, fun _ => t4⟩
    refine ⟨_, rfl, x, dr, rfl, hx, fun H5 ch s5 hch => ?_⟩
    have LS5 := LS4.gw (Gw.of s5)
    have hx5 := hx.keep (.of s5)
    refine ⟨_, rfl, _, rfl, d, x, dr, N, rfl, hx5, ok, LS5.dict, fun H6 s6 => ?_⟩
    have LS6 := LS5.gw (Gw.of s6)
    have hx6 := hx5.keep (.of s6)
    have hch6 := hch.same s6
    rw [LS6.why]
    have hfit := LS6.fit (by omega) ok
    -- fields, says
    refine ⟨_, rfl, _, rfl, x, ch, dr, rfl, hch6, hx6, ok, fun H7 s7 => ⟨true, rfl, iteF ?_⟩⟩
    have LS7 := LS6.gw (Gw.of s7)
    have hx7 := hx6.keep (.of s7)
    have hch7 := hch6.same s7
    refine ⟨_, rfl, _, rfl, _, rfl, t, dr, ch, y, rfl, hch7, LS7.tree, hfit, fun H8 s8 => ⟨true, rfl, iteF ?_⟩⟩
    have LS8 := LS7.gw (Gw.of s8)
    have hx8 := hx7.keep (.of s8)
    have hch8 := hch7.same s8
    refine ⟨fun σ' G => ∃ N t d y o7 o8, LS K T c a M ns (i + 1) i G N t d y us ps ∧ OneAt G dr x ∧ ChAt c G dr ch ∧ σ' = [some (.ref a), some (.ref d), some y, some (.ref M), some (.int ((6 + i : Nat) : Int)), some x, some ch, o7, o8], ?_, ?_⟩
    · refine ⟨_, rfl, rfl, _, rfl, ?_⟩
      rw [whyV_none]
      by_cases z : whyT t dr = .fits
      · rw [decide_eq_true z]
        refine iteT ⟨_, rfl, _, rfl, t, dr, y, x, rfl, LS8.tree, hx8, hfit, z, LS8.tabs, fun H9 w9 k9 hw9 => ?_⟩
        have LS9 := LS8.gw k9
        have hx9 := hx8.keep k9.tup
        have hch9 := hch8.keep k9.tup (insK_ext k9.1)
        refine done_of rfl rfl hch9 LS9.tree hfit (fun _ H10 y10 s10 hy10 => ?_) (fun nz => absurd z nz)
        have LS10 := LS9.gw (Gw.of s10)
        have hx10 := hx9.keep (.of s10)
        have hch10 := hch9.same s10
        have St := stn_step LS10.stn ok z
        refine ⟨_, rfl, _, rfl, d, x, dr, N, rfl, hx10, ok, LS10.dict, LS10.wfN.nd, LS10.nlen (by omega), fun p hp => labs_ok (LS10.wfN.labs p hp), fun H11 d11 b11 hD11 hd11 => ?_⟩
        obtain ⟨kv, hdk, _⟩ := LS10.dict
        have tk11 : TupK H10 H11 := b11.tup hdk fun _ z => by cases z
        have ik11 : InsK H10 H11 := fun b C dx fs h => but_at b11 hdk h (by intro z; cases z)
        have hy11 := hy10.keep tk11
        have hw11 := (hw9.keep (.of s10)).keep tk11
        have hlab : PyData.strOk (resT t dr).lab = true := by
          rw [St.lab]
          exact empty_ok
        have hsh := encT_shaped St.wf hlab St.deep
        refine ⟨_, rfl, _, rfl, _, _, hy11.dp, hw11.dp, hsh, hsh, _, rfl, ?_⟩
        rw [encT_eqv St.wf hlab]
        exact iteF ⟨_, _, _, _, _, _, ⟨fun o => seq_but (kvs := kv) (d := d) (fun b u hb h => (by
            by_cases zz : b = M
            · rw [zz, upd_same] at h ⊢
              exact h
            · rw [upd_ne zz] at h ⊢
              exact b11 b u hb h)) (by rw [upd_ne fun zz => by rw [zz, LS10.lst] at hdk; cases hdk]; exact hdk) (LS10.seqM o), tabs_but LS10.tabs (fun b o h k => but_at b11 hdk h (by
            rintro rfl
            rcases k with ⟨ps, k⟩ | ⟨c, q, k⟩
            · cases k
            · have k' : HO.dT kv = HO.ext _ := k
              cases k')), hD11, hy11, St, but_at b11 hdk LS10.lst (by intro z; cases z), Paired.mono (fun _ _ h => h.keep tk11 ik11) LS10.past, LS10.oks, LS10.len⟩, hx10.keep tk11, hch10.keep tk11 ik11, rfl⟩
      · rw [decide_eq_false z]
        refine iteF ?_
        exact ⟨N, t, d, y, _, _, ⟨LS8.seqM, LS8.tabs, LS8.dict, LS8.tree, LS8.stn.mono (Nat.le_succ i), LS8.lst, LS8.past, LS8.oks, LS8.len⟩, hx8, hch8, rfl⟩
    clear LS3 LS4 LS5 LS6 LS7 LS8 hx hx5 hx6 hx7 hx8 hch hch6 hch7 hch8 hfit
    rintro σ1 G ⟨N, t, d, y, o7, o8, LG, hx, hch, rfl⟩
    -- past.append((one, change))
    refine ⟨_, rfl, tyV_lst LG.lst, _, rfl, _, rfl, (by show 2 ≤ sizeLine; decide), fun p hp => ?_⟩
    have sp1 : Same G (upd G p (.tup [x, ch])) := Same.new hp
    have L1 := LG.gw (Gw.of sp1)
    refine ⟨M, us, .ref p, rfl, rfl, L1.lst, small1000 (by rw [LG.len]; omega), ?_⟩
    have tk : TupK (upd G p (.tup [x, ch])) (upd (upd G p (.tup [x, ch])) M (.lst (us ++ [.ref p]))) := .put L1.lst fun _ z => by cases z
    have ik : InsK (upd G p (.tup [x, ch])) (upd (upd G p (.tup [x, ch])) M (.lst (us ++ [.ref p]))) := fun b C dx fs h => by
      rw [upd_ne fun z => by rw [z, L1.lst] at h; cases h]
      exact h
    have L2' : LS K T c a M ns (i + 1) (i + 1) (upd (upd G p (.tup [x, ch])) M (.lst (us ++ [.ref p]))) N t d y (us ++ [.ref p]) (ps ++ [dr]) := by
      refine ⟨?_, tabs_but L1.tabs (keepX_put L1.lst (fun _ z => by cases z) fun _ _ z => by cases z), ?_, L1.tree.keep tk, L1.stn, upd_same, pair_app (.cons ⟨p, x, ch, rfl, tk _ _ upd_same, (hx.keep (.of sp1)).keep tk, (hch.same sp1).keep tk ik⟩ .nil) (Paired.mono (fun _ _ h => h.keep tk ik) L1.past), fun d hd => ?_, by rw [List.length_append, L1.len]; rfl⟩
      · intro o
        rw [upd_twice]
        exact L1.seqM o
      · obtain ⟨kvs, h1, h2⟩ := L1.dict
        exact ⟨kvs, by rw [upd_ne fun z => by rw [z, L1.lst] at h1; cases h1]; exact h1, h2.keep tk⟩
      · rcases List.mem_append.mp hd with hd | hd
        · exact L1.oks d hd
        · rw [List.mem_singleton.mp hd]
          exact ok
    generalize upd (upd G p (.tup [x, ch])) M (.lst (us ++ [.ref p])) = G2 at L2'
    generalize hus : us ++ [.ref p] = us2 at L2'
    generalize hps : ps ++ [dr] = ps2 at L2'
    -- one, change = past[..]
    have hk2 : 6 + i < ns.length := hk
    obtain ⟨z, hz⟩ : ∃ z, (ns.map V.int)[6 + i]? = some (.int z) := ⟨ns[6 + i], by rw [List.getElem?_map, List.getElem?_eq_getElem hk2]; rfl⟩
    have hul := L2'.len
    obtain ⟨v, hv, ev⟩ := atI_mod us2 (z / 7) (us2.length : Nat) rfl (by omega)
    obtain ⟨dr2, hdr2, hpa⟩ := (paired_mem L2'.past).1 v hv
    have ok2 := L2'.oks dr2 hdr2
    obtain ⟨p2, x2, ch2, rfl, hp2, hx2, hch2⟩ := hpa
    refine ⟨_, rfl, _, rfl, _, rfl, a, _, _, _, rfl, rfl, L2'.seq, atI_nat hz, _, _, rfl, rfl, ⟨by decide, by decide⟩, _, rfl, M, us2, rfl, .inl (SqL.of L2'.lst), _, _, rfl, rfl, (by show (0 : Int) < (us2.length : Nat); omega), M, us2, _, _, rfl, rfl, SqL.of L2'.lst, ev, ?_⟩
    refine ⟨p2, _, rfl, SqT.of hp2, rfl, _, _, rfl, _, _, rfl, rfl, ?_⟩
    -- why, again
    refine ⟨_, rfl, _, rfl, d, x2, dr2, N, rfl, hx2, ok2, L2'.dict, fun G3 s3 => ?_⟩
    have L3 := L2'.gw (Gw.of s3)
    rw [L3.why]
    have hfit := L3.fit (by omega) ok2
    have fin : ∀ (G' : Hp) (o7 o8 : Option V), Gw T G3 G' → (fun σ H' => ∃ N t d y us ps o4 o5 o6 o7 o8, LS K T c a M ns (i + 1) (i + 1) H' N t d y us ps ∧ σ = [some (.ref a), some (.ref d), some y, some (.ref M), o4, o5, o6, o7, o8]) [some (.ref a), some (.ref d), some y, some (.ref M), some (.int ((6 + i : Nat) : Int)), some x2, some ch2, o7, o8] G' := fun G' o7 o8 k => ⟨N, t, d, y, us2, ps2, _, _, _, _, _, L3.gw k, rfl⟩
    refine ⟨_, rfl, _, rfl, _, rfl, t, dr2, ch2, y, rfl, hch2.same s3, L3.tree, hfit, fun G4 s4 => ⟨true, rfl, iteF ?_⟩⟩
    refine ⟨_, rfl, rfl, _, rfl, ?_⟩
    rw [whyV_none]
    by_cases zf : whyT t dr2 = .fits
    · rw [decide_eq_true zf]
      have L4 := L3.gw (Gw.of s4)
      refine iteT (done_of rfl rfl ((hch2.same s3).same s4) L4.tree hfit (fun _ G5 y5 s5 hy5 => ?_) (fun nz => absurd zf nz))
      have L5 := L4.gw (Gw.of s5)
      refine ⟨_, rfl, _, rfl, t, dr2, y, x2, rfl, L5.tree, ((hx2.keep (.of s3)).keep (.of s4)).keep (.of s5), hfit, zf, L5.tabs, fun G6 w6 k6 hw6 => ?_⟩
      have St := stn_step L5.stn ok2 zf
      have hlab : PyData.strOk (resT t dr2).lab = true := by
        rw [St.lab]
        exact empty_ok
      have hsh := encT_shaped St.wf hlab St.deep
      refine ⟨_, _, (hy5.keep k6.tup).dp, hw6.dp, hsh, hsh, _, rfl, ?_⟩
      rw [encT_eqv St.wf hlab]
      exact iteF (fin G6 _ _ (((Gw.of s4).trans (Gw.of s5)).trans k6))
    · rw [decide_eq_false zf]
      exact iteF (iteF (fin G4 _ _ (Gw.of s4)))
  · rintro σ H3 ⟨N, t, d, y, us, ps, o4, o5, o6, o7, o8, LS3, rfl⟩
    have hi : (m - 6).toNat ≤ 42 := by omega
    have hnl := LS3.nlen hi
    refine ⟨_, rfl, _, rfl, Nat.zero_le _, fun p hp => ?_⟩
    have s4 : Same H3 (upd H3 p (.tup [])) := Same.new hp
    refine ⟨d, N, [], .ref p, rfl, LS3.dict.same s4, ⟨p, rfl, upd_same⟩, LS3.wfN, LS3.wfN.root, by omega, (by decide), tabs_same LS3.tabs s4, fun H4 z u e4 t4 hz tu => ?_⟩
    obtain rfl := tree_back LS3.stn tu
    exact ⟨dtT t, _, _, rfl, ((LS3.tree.keep (.of s4)).keep (ext_tup e4)).dt, hz.dt, by have := dtT_dep t; have := LS3.stn.deep; omega, fun H5 _ => q H5⟩
end
end Cm
end

section
/-! The promises chained; what the top has written; the end. -/
namespace Cm
open PySem PySem.Spec PyProof.Rows L2 LamX
theorem kit_yes {K : PySem.W.Frag} {t : Value} {C : Addr} (h1 : PySem.W.isClsIn K C = true) (h2 : PySem.W.typeIn K (.ref C) = some (.type "type")) (h3 : PySem.W.subIn K t (.ref C) = some true) : PySem.W.kitOne K t (.ref C) = some true := by
  unfold PySem.W.kitOne
  by_cases z : (t == Value.ref C) = true
  · rw [if_pos z]
  · rw [if_neg z]
    unfold PySem.W.kitCls
    have h1' : (PySem.W.clsIn K C).isSome = true := h1
    simp only [h1', h2, h3, beq_self_eq_true, Bool.and_self, if_true]
theorem kit_no {K : PySem.W.Frag} {t : Value} {C : Addr} (h0 : (t == Value.ref C) = false) (h1 : PySem.W.isClsIn K C = true) (h2 : PySem.W.typeIn K (.ref C) = some (.type "type")) (h3 : PySem.W.subIn K t (.ref C) = some false) : PySem.W.kitOne K t (.ref C) = some false := by
  unfold PySem.W.kitOne
  rw [h0, if_neg Bool.false_ne_true]
  unfold PySem.W.kitCls
  have h1' : (PySem.W.clsIn K C).isSome = true := h1
  simp only [h1', h2, h3, beq_self_eq_true, Bool.and_self, if_true]
theorem kit_ve {K : PySem.W.Frag} {N : Addr} (h : PySem.W.subIn K (.ref N) (.type "ValueError") = some true) : PySem.W.kitOne K (.ref N) (.type "ValueError") = some true := by
  unfold PySem.W.kitOne
  have e : (Value.ref N == Value.type "ValueError") = false := rfl
  rw [e, if_neg Bool.false_ne_true]
  unfold PySem.W.kitCls
  have e2 : PySem.W.kitMeta "ValueError" = true := by decide +kernel
  simp only [e2, h, if_true]
theorem kit_self {K : PySem.W.Frag} {N : Addr} : PySem.W.kitOne K (.ref N) (.ref N) = some true := by
  unfold PySem.W.kitOne
  rw [if_pos (beq_self_eq_true _)]

/-- where all stands -/
structure Ad where
  ffigures_in : Addr
  frank_of : Addr
  flabel_before : Addr
  fkid_of : Addr
  fnode_at : Addr
  fdeep : Addr
  fwith_node : Addr
  fthere_at : Addr
  fwith_words : Addr
  fwith_kid : Addr
  fwithout : Addr
  f_law_label : Addr
  f_law_word : Addr
  f_law_words : Addr
  f_law_key : Addr
  f_law_nodes : Addr
  f_law_place : Addr
  f_law_kid : Addr
  f_law_laid : Addr
  f_law_gone : Addr
  f_law_same : Addr
  f_law_changed : Addr
  f_law_less : Addr
  f_law_deep : Addr
  f_law_refused : Addr
  f_law_row_of_nodes : Addr
  f_law_drawn : Addr
  f_law_why : Addr
  f_law_made : Addr
  f_law_fields : Addr
  f_law_noted : Addr
  f_law_says : Addr
  flaw : Addr
  f_law_tree : Addr
  f_law_with : Addr
  f_law_due : Addr
  c_law_tree : Addr
  p_law_tree : Addr
  c_law_with : Addr
  p_law_with : Addr
  c_law_due : Addr
  p_law_due : Addr
  mRead__init__ : Addr
  mReadreason : Addr
  mReadmade : Addr
  mPutIn__init__ : Addr
  mPutInreason : Addr
  mPutInmade : Addr
  mLeaveOut__init__ : Addr
  mLeaveOutreason : Addr
  mLeaveOutmade : Addr
  mChangedone : Addr
  mNoFit__init__ : Addr
  CH : Addr
  NF : Addr
  ME : Addr
structure Fds where
  dfigures_in : FuncData
  drank_of : FuncData
  dlabel_before : FuncData
  dkid_of : FuncData
  dnode_at : FuncData
  ddeep : FuncData
  dwith_node : FuncData
  dthere_at : FuncData
  dwith_words : FuncData
  dwith_kid : FuncData
  dwithout : FuncData
  d_law_label : FuncData
  d_law_word : FuncData
  d_law_words : FuncData
  d_law_key : FuncData
  d_law_nodes : FuncData
  d_law_place : FuncData
  d_law_kid : FuncData
  d_law_laid : FuncData
  d_law_gone : FuncData
  d_law_same : FuncData
  d_law_changed : FuncData
  d_law_less : FuncData
  d_law_deep : FuncData
  d_law_refused : FuncData
  d_law_row_of_nodes : FuncData
  d_law_drawn : FuncData
  d_law_why : FuncData
  d_law_made : FuncData
  d_law_fields : FuncData
  d_law_noted : FuncData
  d_law_says : FuncData
  dlaw : FuncData
  d_law_tree : FuncData
  d_law_with : FuncData
  d_law_due : FuncData
  dRead__init__ : FuncData
  dReadreason : FuncData
  dReadmade : FuncData
  dPutIn__init__ : FuncData
  dPutInreason : FuncData
  dPutInmade : FuncData
  dLeaveOut__init__ : FuncData
  dLeaveOutreason : FuncData
  dLeaveOutmade : FuncData
  dChangedone : FuncData
  dNoFit__init__ : FuncData
def Ad.T (A : Ad) : List (Addr × Str) := [(A.p_law_tree, "_law_tree.<locals>.<lambda>"), (A.p_law_with, "_law_with.<locals>.<lambda>"), (A.p_law_due, dueQ)]
structure Facts (K : PySem.W.Frag) (mg : Str → Option Value) (A : Ad) (fd : Fds) (cs : Cs) (xa : ExA) (ft dt : Tok) : Prop where
  B : Bt mg
  C : Cst mg ft dt
  Dfigures_in : DefAt K mg "figures_in" sc_figures_inS A.ffigures_in fd.dfigures_in
  Drank_of : DefAt K mg "rank_of" sc_rank_ofS A.frank_of fd.drank_of
  Dlabel_before : DefAt K mg "label_before" sc_label_beforeS A.flabel_before fd.dlabel_before
  Dkid_of : DefAt K mg "kid_of" sc_kid_ofS A.fkid_of fd.dkid_of
  Dnode_at : DefAt K mg "node_at" sc_node_atS A.fnode_at fd.dnode_at
  Ddeep : DefAt K mg "deep" sc_deepS A.fdeep fd.ddeep
  Dwith_node : DefAt K mg "with_node" sc_with_nodeS A.fwith_node fd.dwith_node
  Dthere_at : DefAt K mg "there_at" sc_there_atS A.fthere_at fd.dthere_at
  Dwith_words : DefAt K mg "with_words" sc_with_wordsS A.fwith_words fd.dwith_words
  Dwith_kid : DefAt K mg "with_kid" sc_with_kidS A.fwith_kid fd.dwith_kid
  Dwithout : DefAt K mg "without" sc_withoutS A.fwithout fd.dwithout
  D_law_label : DefAt K mg "_law_label" sc_law_labelS A.f_law_label fd.d_law_label
  D_law_word : DefAt K mg "_law_word" sc_law_wordS A.f_law_word fd.d_law_word
  D_law_words : DefAt K mg "_law_words" sc_law_wordsS A.f_law_words fd.d_law_words
  D_law_key : DefAt K mg "_law_key" sc_law_keyS A.f_law_key fd.d_law_key
  D_law_nodes : DefAt K mg "_law_nodes" sc_law_nodesS A.f_law_nodes fd.d_law_nodes
  D_law_place : DefAt K mg "_law_place" sc_law_placeS A.f_law_place fd.d_law_place
  D_law_kid : DefAt K mg "_law_kid" sc_law_kidS A.f_law_kid fd.d_law_kid
  D_law_laid : DefAt K mg "_law_laid" sc_law_laidS A.f_law_laid fd.d_law_laid
  D_law_gone : DefAt K mg "_law_gone" sc_law_goneS A.f_law_gone fd.d_law_gone
  D_law_same : DefAt K mg "_law_same" sc_law_sameS A.f_law_same fd.d_law_same
  D_law_changed : DefAt K mg "_law_changed" sc_law_changedS A.f_law_changed fd.d_law_changed
  D_law_less : DefAt K mg "_law_less" sc_law_lessS A.f_law_less fd.d_law_less
  D_law_deep : DefAt K mg "_law_deep" sc_law_deepS A.f_law_deep fd.d_law_deep
  D_law_refused : DefAt K mg "_law_refused" sc_law_refusedS A.f_law_refused fd.d_law_refused
  D_law_row_of_nodes : DefAt K mg "_law_row_of_nodes" sc_law_row_of_nodesS A.f_law_row_of_nodes fd.d_law_row_of_nodes
  D_law_drawn : DefAt K mg "_law_drawn" sc_law_drawnS A.f_law_drawn fd.d_law_drawn
  D_law_why : DefAt K mg "_law_why" sc_law_whyS A.f_law_why fd.d_law_why
  D_law_made : DefAt K mg "_law_made" sc_law_madeS A.f_law_made fd.d_law_made
  D_law_fields : DefAt K mg "_law_fields" sc_law_fieldsS A.f_law_fields fd.d_law_fields
  D_law_noted : DefAt K mg "_law_noted" sc_law_notedS A.f_law_noted fd.d_law_noted
  D_law_says : DefAt K mg "_law_says" sc_law_saysS A.f_law_says fd.d_law_says
  Dlaw : DefAt K mg "law" sc_lawS A.flaw fd.dlaw
  D_law_tree : DefC K mg "_law_tree" sc_law_treeS A.f_law_tree fd.d_law_tree A.c_law_tree
  D_law_with : DefC K mg "_law_with" sc_law_withS A.f_law_with fd.d_law_with A.c_law_with
  D_law_due : DefC K mg "_law_due" sc_law_dueS A.f_law_due fd.d_law_due A.c_law_due
  DRead__init__ : DefM K "__init__" "Read.__init__" sc_Read_initS A.mRead__init__ fd.dRead__init__
  DReadreason : DefM K "reason" "Read.reason" sc_Read_reasonS A.mReadreason fd.dReadreason
  DReadmade : DefM K "made" "Read.made" sc_Read_madeS A.mReadmade fd.dReadmade
  DPutIn__init__ : DefM K "__init__" "PutIn.__init__" sc_PutIn_initS A.mPutIn__init__ fd.dPutIn__init__
  DPutInreason : DefM K "reason" "PutIn.reason" sc_PutIn_reasonS A.mPutInreason fd.dPutInreason
  DPutInmade : DefM K "made" "PutIn.made" sc_PutIn_madeS A.mPutInmade fd.dPutInmade
  DLeaveOut__init__ : DefM K "__init__" "LeaveOut.__init__" sc_LeaveOut_initS A.mLeaveOut__init__ fd.dLeaveOut__init__
  DLeaveOutreason : DefM K "reason" "LeaveOut.reason" sc_LeaveOut_reasonS A.mLeaveOutreason fd.dLeaveOutreason
  DLeaveOutmade : DefM K "made" "LeaveOut.made" sc_LeaveOut_madeS A.mLeaveOutmade fd.dLeaveOutmade
  DChangedone : DefM K "done" "Change.done" sc_Change_doneS A.mChangedone fd.dChangedone
  DNoFit__init__ : DefM K "__init__" "NoFit.__init__" sc_NoFit_initS A.mNoFit__init__ fd.dNoFit__init__
  cok : CsOk K cs
  kR : Mk K cs.R A.mRead__init__
  gR : mg "Read" = some (.ref cs.R)
  rR : Meth K cs.R "reason" A.mReadreason
  mR : Meth K cs.R "made" A.mReadmade
  dR : Meth K cs.R "done" A.mChangedone
  kP : Mk K cs.P A.mPutIn__init__
  gP : mg "PutIn" = some (.ref cs.P)
  rP : Meth K cs.P "reason" A.mPutInreason
  mP : Meth K cs.P "made" A.mPutInmade
  dP : Meth K cs.P "done" A.mChangedone
  kL : Mk K cs.L A.mLeaveOut__init__
  gL : mg "LeaveOut" = some (.ref cs.L)
  rL : Meth K cs.L "reason" A.mLeaveOutreason
  mL : Meth K cs.L "made" A.mLeaveOutmade
  dL : Meth K cs.L "done" A.mChangedone
  gCH : mg "Change" = some (.ref A.CH)
  isc : IsCh K cs A.CH
  ox : OexC K A.NF
  iN : PySem.W.findIn K (.ref A.NF) "__init__" = some (some (.ref A.mNoFit__init__))
  tN : PySem.W.typeIn K (.ref A.mNoFit__init__) = some (.type "function")
  xf : ExF K mg A.ME A.NF
  xo : ExOs K mg A.NF xa
  n1 : A.p_law_tree ≠ A.p_law_with
  n2 : A.p_law_tree ≠ A.p_law_due
  n3 : A.p_law_with ≠ A.p_law_due
section
variable {P : Program} {w : World} {K : PySem.W.Frag} {mg : Str → Option Value} {A : Ad} {fd : Fds} {cs : Cs} {xa : ExA} {ft dt : Tok}
theorem alldeep {base : Heap} (F : Facts K mg A fd cs xa ft dt) : ∀ n, CallOk P w K mg base (n + 1) "deep" sc_deepP (spDeep n)
  | 0 => F.Ddeep.zero (k := 0) sc_deep (fun _ _ _ _ _ _ us hl => match us, hl with | [_], _ => rfl) (fun vs H Q E ⟨t, _, _, _, h, _⟩ => by have := deep_pos t; omega)
  | n + 1 => ok_deep_step F.Ddeep F.B (alldeep F n)
theorem all_law_deep {base : Heap} (F : Facts K mg A fd cs xa ft dt) : ∀ n, CallOk P w K mg base (n + 1) "_law_deep" sc_law_deepP (spDeep n)
  | 0 => F.D_law_deep.zero (k := 0) sc_law_deep (fun _ _ _ _ _ _ us hl => match us, hl with | [_], _ => rfl) (fun vs H Q E ⟨t, _, _, _, h, _⟩ => by have := deep_pos t; omega)
  | n + 1 => ok_law_deep_step F.D_law_deep F.B (all_law_deep F n)
theorem allwith_node {base : Heap} (F : Facts K mg A fd cs xa ft dt) : ∀ n, CallOk P w K mg base (n + 1) "with_node" sc_with_nodeP (spWith n)
  | 0 => F.Dwith_node.zero (k := 0) sc_with_node (fun _ _ _ _ _ _ us hl => match us, hl with | [_, _, _], _ => rfl) (fun vs H Q E ⟨_, _, _, _, _, _, _, _, _, _, _, _, h, _⟩ => by omega)
  | n + 1 => ok_with_node_step F.Dwith_node F.B (allwith_node F n)
theorem all_law_laid {base : Heap} (F : Facts K mg A fd cs xa ft dt) : ∀ n, CallOk P w K mg base (n + 1) "_law_laid" sc_law_laidP (spLaid n)
  | 0 => F.D_law_laid.zero (k := 0) sc_law_laid (fun _ _ _ _ _ _ us hl => match us, hl with | [_, _, _], _ => rfl) (fun vs H Q E ⟨_, _, _, _, _, t, _, _, _, _, h, _⟩ => by have := deep_pos t; omega)
  | n + 1 => ok_law_laid_step F.D_law_laid (all_law_laid F n)
theorem all_law_same {base : Heap} (F : Facts K mg A fd cs xa ft dt) : ∀ n, CallOk P w K mg base (n + 1) "_law_same" sc_law_sameP (spSame n)
  | 0 => F.D_law_same.zero (k := 0) sc_law_same (fun _ _ _ _ _ _ us hl => match us, hl with | [_, _], _ => rfl) (fun vs H Q E ⟨d, _, _, _, _, _, h, _⟩ => by
      have : 1 ≤ d.dep := by
        cases d with
        | s x => unfold Dt.dep; exact Nat.le_refl _
        | t l => unfold Dt.dep; omega
      omega)
  | n + 1 => ok_law_same_step F.D_law_same F.B (all_law_same F n)
theorem all_law_changed {base : Heap} (F : Facts K mg A fd cs xa ft dt) : ∀ n, CallOk P w K mg base (6 + n + 1) "_law_changed" sc_law_changedP (spChg P w K mg base A.T 6 n)
  | 0 => F.D_law_changed.zero (k := 6) sc_law_changed (fun _ _ _ _ _ _ us hl => match us, hl with | [_, _, _], _ => rfl) (fun vs H Q E ⟨_, _, _, _, _, _, _, _, _, _, _, _, _, _, _, h, _⟩ => by omega)
  | n + 1 => ok_law_changed_step F.D_law_changed F.B (all_law_changed F n)
theorem key_ok {base : Heap} (F : Facts K mg A fd cs xa ft dt) : CallOk P w K mg base 1 "_law_key" sc_law_keyP spKey := ok_law_key F.D_law_key F.B
theorem T_tree (A : Ad) : (A.p_law_tree, ("_law_tree.<locals>.<lambda>" : Str)) ∈ A.T := List.mem_cons_self
theorem T_with (A : Ad) : (A.p_law_with, ("_law_with.<locals>.<lambda>" : Str)) ∈ A.T := List.mem_cons_of_mem _ List.mem_cons_self
theorem T_due (A : Ad) : (A.p_law_due, dueQ) ∈ A.T := List.mem_cons_of_mem _ (List.mem_cons_of_mem _ List.mem_cons_self)
theorem T_only (F : Facts K mg A fd cs xa ft dt) : (∀ p ∈ A.T, p.1 = A.p_law_tree → p.2 = ("_law_tree.<locals>.<lambda>" : Str)) ∧ (∀ p ∈ A.T, p.1 = A.p_law_with → p.2 = ("_law_with.<locals>.<lambda>" : Str)) ∧ ∀ p ∈ A.T, p.1 = A.p_law_due → p.2 = dueQ := by
  have n1 := F.n1
  have n2 := F.n2
  have n3 := F.n3
  refine ⟨fun p hp e => ?_, fun p hp e => ?_, fun p hp e => ?_⟩ <;> (unfold Ad.T at hp; simp only [List.mem_cons, List.not_mem_nil, or_false] at hp; rcases hp with rfl | rfl | rfl)
  · rfl
  · exact absurd e.symm n1
  · exact absurd e.symm n2
  · exact absurd e n1
  · rfl
  · exact absurd e.symm n3
  · exact absurd e n2
  · exact absurd e n3
  · rfl
theorem all_law_tree {base : Heap} (F : Facts K mg A fd cs xa ft dt) (TB : TabB base mg A.c_law_tree A.p_law_tree) : ∀ n, CallOk P w K mg base (n + 5) "_law_tree" sc_law_treeP (spTree K A.T n)
  | 0 => F.D_law_tree.zero (k := 4) sc_law_tree (fun _ _ _ _ _ _ us hl => match us, hl with | [_, _], _ => rfl) (fun vs H Q E ⟨_, _, _, _, _, _, _, _, _, _, h, _⟩ => by omega)
  | n + 1 => ok_law_tree_step F.D_law_tree F.B TB (T_tree A) (T_only F).1 (key_ok F) (all_law_tree F TB n)
theorem with_ok {base : Heap} (F : Facts K mg A fd cs xa ft dt) (TB : TabB base mg A.c_law_with A.p_law_with) : CallOk P w K mg base 5 "_law_with" sc_law_withP (spLWith A.T) := ok_law_with F.D_law_with F.B TB (T_with A) (T_only F).2.1 (key_ok F)
theorem b2 {m q : Str} {st : Stmt} {f : Addr} {fd : FuncData} {ps : List Str} (D : DefM K m q st f fd) (h : ∀ (kV doc pm : Value) (an : Option Addr) (cdv ct : Value) (us : List Value), us.length = ps.length → bindArgs (PySem.W.fnOf m q (defArgs st) (defBody st) (defScope st) .none kV doc pm an cdv ct) ⟨us, []⟩ = pure (ps.zip us)) : L2.Binds K fd ps [] := D.F.binds h
theorem chain {base : Heap} (F : Facts K mg A fd cs xa ft dt) (T1 : TabB base mg A.c_law_tree A.p_law_tree) (T2 : TabB base mg A.c_law_with A.p_law_with) (T3 : TabB base mg A.c_law_due A.p_law_due) : FnOk P w K mg base CX0 23 A.flaw fd.dlaw sc_lawP (spLaw K A.T) := by
  have B := F.B
  have fig := ok_figures_in (P := P) (w := w) (base := base) F.Dfigures_in B F.C
  have rank := ok_rank_of F.Drank_of B fig
  have bef := ok_label_before F.Dlabel_before rank
  have kid := ok_kid_of (P := P) (w := w) (base := base) F.Dkid_of
  have nat := ok_node_at F.Dnode_at kid
  have dp := alldeep (P := P) (w := w) (base := base) F 9
  have wn := allwith_node (P := P) (w := w) (base := base) F 9
  have there := ok_there_at F.Dthere_at nat
  have ww := ok_with_words F.Dwith_words there wn
  have wk := ok_with_kid F.Dwith_kid B there kid bef wn
  have wo := ok_without F.Dwithout B there wn
  have S : Chs P w K mg base cs := ⟨F.cok,
    ⟨A.mReadreason, fd.dReadreason, F.rR, ok_Read_reason F.DReadreason F.cok.R nat, b2 F.DReadreason (fun _ _ _ _ _ _ us hl => match us, hl with | [_, _], _ => rfl)⟩,
    ⟨A.mPutInreason, fd.dPutInreason, F.rP, ok_PutIn_reason F.DPutInreason B F.C F.cok.P nat dp, b2 F.DPutInreason (fun _ _ _ _ _ _ us hl => match us, hl with | [_, _], _ => rfl)⟩,
    ⟨A.mLeaveOutreason, fd.dLeaveOutreason, F.rL, ok_LeaveOut_reason F.DLeaveOutreason F.cok.L nat, b2 F.DLeaveOutreason (fun _ _ _ _ _ _ us hl => match us, hl with | [_, _], _ => rfl)⟩,
    ⟨A.mReadmade, fd.dReadmade, F.mR, ok_Read_made F.DReadmade F.cok.R ww, b2 F.DReadmade (fun _ _ _ _ _ _ us hl => match us, hl with | [_, _], _ => rfl)⟩,
    ⟨A.mPutInmade, fd.dPutInmade, F.mP, ok_PutIn_made F.DPutInmade F.cok.P wk, b2 F.DPutInmade (fun _ _ _ _ _ _ us hl => match us, hl with | [_, _], _ => rfl)⟩,
    ⟨A.mLeaveOutmade, fd.dLeaveOutmade, F.mL, ok_LeaveOut_made F.DLeaveOutmade F.cok.L wo, b2 F.DLeaveOutmade (fun _ _ _ _ _ _ us hl => match us, hl with | [_, _], _ => rfl)⟩⟩
  have NO : NfOk P w K mg base A.NF sc_NoFit_initP (spNf A.NF) := ⟨F.ox, F.xf.gN, A.mNoFit__init__, fd.dNoFit__init__, F.iN, F.tN, ok_NoFit_init F.DNoFit__init__ F.ox F.xf.no, b2 F.DNoFit__init__ (fun _ _ _ _ _ _ us hl => match us, hl with | [_, _], _ => rfl)⟩
  have dn := ok_done F.DChangedone S NO
  have bd : L2.Binds K fd.dChangedone ["self", "tree"] [] := b2 F.DChangedone (fun _ _ _ _ _ _ us hl => match us, hl with | [_, _], _ => rfl)
  have Dn : Dns P w K mg base cs A.NF := ⟨⟨_, _, F.dR, dn, bd⟩, ⟨_, _, F.dP, dn, bd⟩, ⟨_, _, F.dL, dn, bd⟩⟩
  have M : Mks P w K mg base cs := ⟨⟨_, _, F.kR, ok_Read_init F.DRead__init__ F.cok.R, b2 F.DRead__init__ (fun _ _ _ _ _ _ us hl => match us, hl with | [_, _, _], _ => rfl), F.gR⟩, ⟨_, _, F.kP, ok_PutIn_init F.DPutIn__init__ F.cok.P, b2 F.DPutIn__init__ (fun _ _ _ _ _ _ us hl => match us, hl with | [_, _, _], _ => rfl), F.gP⟩, ⟨_, _, F.kL, ok_LeaveOut_init F.DLeaveOut__init__ F.cok.L, b2 F.DLeaveOut__init__ (fun _ _ _ _ _ _ us hl => match us, hl with | [_, _], _ => rfl), F.gL⟩⟩
  have lab := ok_law_label (P := P) (w := w) (base := base) F.D_law_label B
  have word := ok_law_word (P := P) (w := w) (base := base) F.D_law_word B
  have words := ok_law_words F.D_law_words B word
  have nodes := ok_law_nodes F.D_law_nodes B lab words
  have tree := all_law_tree (P := P) (w := w) F T1 9
  have place := ok_law_place F.D_law_place B lab
  have lkid := ok_law_kid F.D_law_kid B nodes lab tree
  have row := ok_law_row F.D_law_row_of_nodes B lab
  have drawn := ok_law_drawn F.D_law_drawn place words lkid row
  have laid := all_law_laid (P := P) (w := w) (base := base) F 8
  have gone := ok_law_gone (P := P) (w := w) (base := base) F.D_law_gone B
  have same := all_law_same (P := P) (w := w) (base := base) F 19
  have ldeep := all_law_deep (P := P) (w := w) (base := base) F 9
  have due := ok_law_due (P := P) (w := w) F.D_law_due T3 (T_due A) (T_only F).2.2 F.D_law_changed.g F.D_law_changed.F.kp (fun B' _ _ => all_law_changed F 9) (fun B' _ bk => with_ok F (tabB_keep T2 bk)) (fun B' _ _ => ok_law_less F.D_law_less B)
  have why := ok_law_why F.D_law_why B ldeep
  have made := ok_law_made F.D_law_made M
  have fields := ok_law_fields F.D_law_fields B F.gCH F.cok F.isc same
  have noted := ok_law_noted F.D_law_noted laid gone
  have refused := ok_law_refused F.D_law_refused B F.cok Dn F.xf F.xo same
  have says := ok_law_says F.D_law_says S same refused
  exact ok_law F.Dlaw B S Dn nodes tree drawn made why fields says due noted same
end
/-- the facts of the written part, one by one, give the promise of the law -/
theorem all_mk {l : PySem.W.OpenLaw} {w : World} {K : PySem.W.Frag} {h : Heap} {mg : Str → Option Value} {fa : Addr} (X : K.In h) (G : h.Ns mainGlobals mg) (hfa : mg "law" = some (.ref fa))
    {ffigures_in frank_of flabel_before fkid_of fnode_at fdeep fwith_node fthere_at fwith_words fwith_kid fwithout f_law_label f_law_word f_law_words f_law_key f_law_nodes f_law_place f_law_kid f_law_laid f_law_gone f_law_same f_law_changed f_law_less f_law_deep f_law_refused f_law_row_of_nodes f_law_drawn f_law_why f_law_made f_law_fields f_law_noted f_law_says flaw f_law_tree c_law_tree_ p_law_tree_ f_law_with c_law_with_ p_law_with_ f_law_due c_law_due_ p_law_due_ CR CP CL CH CN CM CNoText CNoPlace CNoName CTwice CNoDay CNoAct CNoRow fRead__init__ fReadreason fReadmade fPutIn__init__ fPutInreason fPutInmade fLeaveOut__init__ fLeaveOutreason fLeaveOutmade fChangedone fNoFit__init__ : Addr} {ft dt : Tok}
    {ocfigures_in kVfigures_in dcfigures_in pmfigures_in ctfigures_in : Value} {odfigures_in anfigures_in : Option Addr} {slfigures_in : Array (Option Value)} {cdfigures_in : Value}
    {ocrank_of kVrank_of dcrank_of pmrank_of ctrank_of : Value} {odrank_of anrank_of : Option Addr} {slrank_of : Array (Option Value)} {cdrank_of : Value}
    {oclabel_before kVlabel_before dclabel_before pmlabel_before ctlabel_before : Value} {odlabel_before anlabel_before : Option Addr} {sllabel_before : Array (Option Value)} {cdlabel_before : Value}
    {ockid_of kVkid_of dckid_of pmkid_of ctkid_of : Value} {odkid_of ankid_of : Option Addr} {slkid_of : Array (Option Value)} {cdkid_of : Value}
    {ocnode_at kVnode_at dcnode_at pmnode_at ctnode_at : Value} {odnode_at annode_at : Option Addr} {slnode_at : Array (Option Value)} {cdnode_at : Value}
    {ocdeep kVdeep dcdeep pmdeep ctdeep : Value} {oddeep andeep : Option Addr} {sldeep : Array (Option Value)} {cddeep : Value}
    {ocwith_node kVwith_node dcwith_node pmwith_node ctwith_node : Value} {odwith_node anwith_node : Option Addr} {slwith_node : Array (Option Value)} {cdwith_node : Value}
    {octhere_at kVthere_at dcthere_at pmthere_at ctthere_at : Value} {odthere_at anthere_at : Option Addr} {slthere_at : Array (Option Value)} {cdthere_at : Value}
    {ocwith_words kVwith_words dcwith_words pmwith_words ctwith_words : Value} {odwith_words anwith_words : Option Addr} {slwith_words : Array (Option Value)} {cdwith_words : Value}
    {ocwith_kid kVwith_kid dcwith_kid pmwith_kid ctwith_kid : Value} {odwith_kid anwith_kid : Option Addr} {slwith_kid : Array (Option Value)} {cdwith_kid : Value}
    {ocwithout kVwithout dcwithout pmwithout ctwithout : Value} {odwithout anwithout : Option Addr} {slwithout : Array (Option Value)} {cdwithout : Value}
    {oc_law_label kV_law_label dc_law_label pm_law_label ct_law_label : Value} {od_law_label an_law_label : Option Addr} {sl_law_label : Array (Option Value)} {cd_law_label : Value}
    {oc_law_word kV_law_word dc_law_word pm_law_word ct_law_word : Value} {od_law_word an_law_word : Option Addr} {sl_law_word : Array (Option Value)} {cd_law_word : Value}
    {oc_law_words kV_law_words dc_law_words pm_law_words ct_law_words : Value} {od_law_words an_law_words : Option Addr} {sl_law_words : Array (Option Value)} {cd_law_words : Value}
    {oc_law_key kV_law_key dc_law_key pm_law_key ct_law_key : Value} {od_law_key an_law_key : Option Addr} {sl_law_key : Array (Option Value)} {cd_law_key : Value}
    {oc_law_nodes kV_law_nodes dc_law_nodes pm_law_nodes ct_law_nodes : Value} {od_law_nodes an_law_nodes : Option Addr} {sl_law_nodes : Array (Option Value)} {cd_law_nodes : Value}
    {oc_law_place kV_law_place dc_law_place pm_law_place ct_law_place : Value} {od_law_place an_law_place : Option Addr} {sl_law_place : Array (Option Value)} {cd_law_place : Value}
    {oc_law_kid kV_law_kid dc_law_kid pm_law_kid ct_law_kid : Value} {od_law_kid an_law_kid : Option Addr} {sl_law_kid : Array (Option Value)} {cd_law_kid : Value}
    {oc_law_laid kV_law_laid dc_law_laid pm_law_laid ct_law_laid : Value} {od_law_laid an_law_laid : Option Addr} {sl_law_laid : Array (Option Value)} {cd_law_laid : Value}
    {oc_law_gone kV_law_gone dc_law_gone pm_law_gone ct_law_gone : Value} {od_law_gone an_law_gone : Option Addr} {sl_law_gone : Array (Option Value)} {cd_law_gone : Value}
    {oc_law_same kV_law_same dc_law_same pm_law_same ct_law_same : Value} {od_law_same an_law_same : Option Addr} {sl_law_same : Array (Option Value)} {cd_law_same : Value}
    {oc_law_changed kV_law_changed dc_law_changed pm_law_changed ct_law_changed : Value} {od_law_changed an_law_changed : Option Addr} {sl_law_changed : Array (Option Value)} {cd_law_changed : Value}
    {oc_law_less kV_law_less dc_law_less pm_law_less ct_law_less : Value} {od_law_less an_law_less : Option Addr} {sl_law_less : Array (Option Value)} {cd_law_less : Value}
    {oc_law_deep kV_law_deep dc_law_deep pm_law_deep ct_law_deep : Value} {od_law_deep an_law_deep : Option Addr} {sl_law_deep : Array (Option Value)} {cd_law_deep : Value}
    {oc_law_refused kV_law_refused dc_law_refused pm_law_refused ct_law_refused : Value} {od_law_refused an_law_refused : Option Addr} {sl_law_refused : Array (Option Value)} {cd_law_refused : Value}
    {oc_law_row_of_nodes kV_law_row_of_nodes dc_law_row_of_nodes pm_law_row_of_nodes ct_law_row_of_nodes : Value} {od_law_row_of_nodes an_law_row_of_nodes : Option Addr} {sl_law_row_of_nodes : Array (Option Value)} {cd_law_row_of_nodes : Value}
    {oc_law_drawn kV_law_drawn dc_law_drawn pm_law_drawn ct_law_drawn : Value} {od_law_drawn an_law_drawn : Option Addr} {sl_law_drawn : Array (Option Value)} {cd_law_drawn : Value}
    {oc_law_why kV_law_why dc_law_why pm_law_why ct_law_why : Value} {od_law_why an_law_why : Option Addr} {sl_law_why : Array (Option Value)} {cd_law_why : Value}
    {oc_law_made kV_law_made dc_law_made pm_law_made ct_law_made : Value} {od_law_made an_law_made : Option Addr} {sl_law_made : Array (Option Value)} {cd_law_made : Value}
    {oc_law_fields kV_law_fields dc_law_fields pm_law_fields ct_law_fields : Value} {od_law_fields an_law_fields : Option Addr} {sl_law_fields : Array (Option Value)} {cd_law_fields : Value}
    {oc_law_noted kV_law_noted dc_law_noted pm_law_noted ct_law_noted : Value} {od_law_noted an_law_noted : Option Addr} {sl_law_noted : Array (Option Value)} {cd_law_noted : Value}
    {oc_law_says kV_law_says dc_law_says pm_law_says ct_law_says : Value} {od_law_says an_law_says : Option Addr} {sl_law_says : Array (Option Value)} {cd_law_says : Value}
    {oclaw kVlaw dclaw pmlaw ctlaw : Value} {odlaw anlaw : Option Addr} {sllaw : Array (Option Value)} {cdlaw : Value}
    {oc_law_tree kV_law_tree dc_law_tree pm_law_tree ct_law_tree : Value} {od_law_tree an_law_tree : Option Addr} {sl_law_tree : Array (Option Value)}
    {oc_law_with kV_law_with dc_law_with pm_law_with ct_law_with : Value} {od_law_with an_law_with : Option Addr} {sl_law_with : Array (Option Value)}
    {oc_law_due kV_law_due dc_law_due pm_law_due ct_law_due : Value} {od_law_due an_law_due : Option Addr} {sl_law_due : Array (Option Value)}
    {ocRead__init__ kVRead__init__ dcRead__init__ pmRead__init__ ctRead__init__ : Value} {odRead__init__ anRead__init__ : Option Addr} {slRead__init__ : Array (Option Value)} {cdRead__init__ : Value}
    {ocReadreason kVReadreason dcReadreason pmReadreason ctReadreason : Value} {odReadreason anReadreason : Option Addr} {slReadreason : Array (Option Value)} {cdReadreason : Value}
    {ocReadmade kVReadmade dcReadmade pmReadmade ctReadmade : Value} {odReadmade anReadmade : Option Addr} {slReadmade : Array (Option Value)} {cdReadmade : Value}
    {ocPutIn__init__ kVPutIn__init__ dcPutIn__init__ pmPutIn__init__ ctPutIn__init__ : Value} {odPutIn__init__ anPutIn__init__ : Option Addr} {slPutIn__init__ : Array (Option Value)} {cdPutIn__init__ : Value}
    {ocPutInreason kVPutInreason dcPutInreason pmPutInreason ctPutInreason : Value} {odPutInreason anPutInreason : Option Addr} {slPutInreason : Array (Option Value)} {cdPutInreason : Value}
    {ocPutInmade kVPutInmade dcPutInmade pmPutInmade ctPutInmade : Value} {odPutInmade anPutInmade : Option Addr} {slPutInmade : Array (Option Value)} {cdPutInmade : Value}
    {ocLeaveOut__init__ kVLeaveOut__init__ dcLeaveOut__init__ pmLeaveOut__init__ ctLeaveOut__init__ : Value} {odLeaveOut__init__ anLeaveOut__init__ : Option Addr} {slLeaveOut__init__ : Array (Option Value)} {cdLeaveOut__init__ : Value}
    {ocLeaveOutreason kVLeaveOutreason dcLeaveOutreason pmLeaveOutreason ctLeaveOutreason : Value} {odLeaveOutreason anLeaveOutreason : Option Addr} {slLeaveOutreason : Array (Option Value)} {cdLeaveOutreason : Value}
    {ocLeaveOutmade kVLeaveOutmade dcLeaveOutmade pmLeaveOutmade ctLeaveOutmade : Value} {odLeaveOutmade anLeaveOutmade : Option Addr} {slLeaveOutmade : Array (Option Value)} {cdLeaveOutmade : Value}
    {ocChangedone kVChangedone dcChangedone pmChangedone ctChangedone : Value} {odChangedone anChangedone : Option Addr} {slChangedone : Array (Option Value)} {cdChangedone : Value}
    {ocNoFit__init__ kVNoFit__init__ dcNoFit__init__ pmNoFit__init__ ctNoFit__init__ : Value} {odNoFit__init__ anNoFit__init__ : Option Addr} {slNoFit__init__ : Array (Option Value)} {cdNoFit__init__ : Value}
    {nmN qN : Str} {aN : Addr} {bsN bmN : List Value} {snN : List Str} {suN : List Value} {abN : Bool} {coN : Option Bool} {ddN : Option Addr} {x0 x1 x2 x3 x5 : Option Value}
    (hafigures_in : PySem.W.nsIn K mainGlobals "figures_in" = some (some (.ref ffigures_in)))
    (hlfigures_in : K.lookup ffigures_in = some ⟨ocfigures_in, odfigures_in, .func (PySem.W.fnOf "figures_in" "figures_in" (defArgs sc_figures_inS) (defBody sc_figures_inS) (defScope sc_figures_inS) .none kVfigures_in dcfigures_in pmfigures_in anfigures_in cdfigures_in ctfigures_in), slfigures_in⟩)
    (hcfigures_in : PySem.W.codeIn K cdfigures_in "figures_in" = true)
    (hkfigures_in : PySem.W.keepIn K (.ref ffigures_in) = true)
    (harank_of : PySem.W.nsIn K mainGlobals "rank_of" = some (some (.ref frank_of)))
    (hlrank_of : K.lookup frank_of = some ⟨ocrank_of, odrank_of, .func (PySem.W.fnOf "rank_of" "rank_of" (defArgs sc_rank_ofS) (defBody sc_rank_ofS) (defScope sc_rank_ofS) .none kVrank_of dcrank_of pmrank_of anrank_of cdrank_of ctrank_of), slrank_of⟩)
    (hcrank_of : PySem.W.codeIn K cdrank_of "rank_of" = true)
    (hkrank_of : PySem.W.keepIn K (.ref frank_of) = true)
    (halabel_before : PySem.W.nsIn K mainGlobals "label_before" = some (some (.ref flabel_before)))
    (hllabel_before : K.lookup flabel_before = some ⟨oclabel_before, odlabel_before, .func (PySem.W.fnOf "label_before" "label_before" (defArgs sc_label_beforeS) (defBody sc_label_beforeS) (defScope sc_label_beforeS) .none kVlabel_before dclabel_before pmlabel_before anlabel_before cdlabel_before ctlabel_before), sllabel_before⟩)
    (hclabel_before : PySem.W.codeIn K cdlabel_before "label_before" = true)
    (hklabel_before : PySem.W.keepIn K (.ref flabel_before) = true)
    (hakid_of : PySem.W.nsIn K mainGlobals "kid_of" = some (some (.ref fkid_of)))
    (hlkid_of : K.lookup fkid_of = some ⟨ockid_of, odkid_of, .func (PySem.W.fnOf "kid_of" "kid_of" (defArgs sc_kid_ofS) (defBody sc_kid_ofS) (defScope sc_kid_ofS) .none kVkid_of dckid_of pmkid_of ankid_of cdkid_of ctkid_of), slkid_of⟩)
    (hckid_of : PySem.W.codeIn K cdkid_of "kid_of" = true)
    (hkkid_of : PySem.W.keepIn K (.ref fkid_of) = true)
    (hanode_at : PySem.W.nsIn K mainGlobals "node_at" = some (some (.ref fnode_at)))
    (hlnode_at : K.lookup fnode_at = some ⟨ocnode_at, odnode_at, .func (PySem.W.fnOf "node_at" "node_at" (defArgs sc_node_atS) (defBody sc_node_atS) (defScope sc_node_atS) .none kVnode_at dcnode_at pmnode_at annode_at cdnode_at ctnode_at), slnode_at⟩)
    (hcnode_at : PySem.W.codeIn K cdnode_at "node_at" = true)
    (hknode_at : PySem.W.keepIn K (.ref fnode_at) = true)
    (hadeep : PySem.W.nsIn K mainGlobals "deep" = some (some (.ref fdeep)))
    (hldeep : K.lookup fdeep = some ⟨ocdeep, oddeep, .func (PySem.W.fnOf "deep" "deep" (defArgs sc_deepS) (defBody sc_deepS) (defScope sc_deepS) .none kVdeep dcdeep pmdeep andeep cddeep ctdeep), sldeep⟩)
    (hcdeep : PySem.W.codeIn K cddeep "deep" = true)
    (hkdeep : PySem.W.keepIn K (.ref fdeep) = true)
    (hawith_node : PySem.W.nsIn K mainGlobals "with_node" = some (some (.ref fwith_node)))
    (hlwith_node : K.lookup fwith_node = some ⟨ocwith_node, odwith_node, .func (PySem.W.fnOf "with_node" "with_node" (defArgs sc_with_nodeS) (defBody sc_with_nodeS) (defScope sc_with_nodeS) .none kVwith_node dcwith_node pmwith_node anwith_node cdwith_node ctwith_node), slwith_node⟩)
    (hcwith_node : PySem.W.codeIn K cdwith_node "with_node" = true)
    (hkwith_node : PySem.W.keepIn K (.ref fwith_node) = true)
    (hathere_at : PySem.W.nsIn K mainGlobals "there_at" = some (some (.ref fthere_at)))
    (hlthere_at : K.lookup fthere_at = some ⟨octhere_at, odthere_at, .func (PySem.W.fnOf "there_at" "there_at" (defArgs sc_there_atS) (defBody sc_there_atS) (defScope sc_there_atS) .none kVthere_at dcthere_at pmthere_at anthere_at cdthere_at ctthere_at), slthere_at⟩)
    (hcthere_at : PySem.W.codeIn K cdthere_at "there_at" = true)
    (hkthere_at : PySem.W.keepIn K (.ref fthere_at) = true)
    (hawith_words : PySem.W.nsIn K mainGlobals "with_words" = some (some (.ref fwith_words)))
    (hlwith_words : K.lookup fwith_words = some ⟨ocwith_words, odwith_words, .func (PySem.W.fnOf "with_words" "with_words" (defArgs sc_with_wordsS) (defBody sc_with_wordsS) (defScope sc_with_wordsS) .none kVwith_words dcwith_words pmwith_words anwith_words cdwith_words ctwith_words), slwith_words⟩)
    (hcwith_words : PySem.W.codeIn K cdwith_words "with_words" = true)
    (hkwith_words : PySem.W.keepIn K (.ref fwith_words) = true)
    (hawith_kid : PySem.W.nsIn K mainGlobals "with_kid" = some (some (.ref fwith_kid)))
    (hlwith_kid : K.lookup fwith_kid = some ⟨ocwith_kid, odwith_kid, .func (PySem.W.fnOf "with_kid" "with_kid" (defArgs sc_with_kidS) (defBody sc_with_kidS) (defScope sc_with_kidS) .none kVwith_kid dcwith_kid pmwith_kid anwith_kid cdwith_kid ctwith_kid), slwith_kid⟩)
    (hcwith_kid : PySem.W.codeIn K cdwith_kid "with_kid" = true)
    (hkwith_kid : PySem.W.keepIn K (.ref fwith_kid) = true)
    (hawithout : PySem.W.nsIn K mainGlobals "without" = some (some (.ref fwithout)))
    (hlwithout : K.lookup fwithout = some ⟨ocwithout, odwithout, .func (PySem.W.fnOf "without" "without" (defArgs sc_withoutS) (defBody sc_withoutS) (defScope sc_withoutS) .none kVwithout dcwithout pmwithout anwithout cdwithout ctwithout), slwithout⟩)
    (hcwithout : PySem.W.codeIn K cdwithout "without" = true)
    (hkwithout : PySem.W.keepIn K (.ref fwithout) = true)
    (ha_law_label : PySem.W.nsIn K mainGlobals "_law_label" = some (some (.ref f_law_label)))
    (hl_law_label : K.lookup f_law_label = some ⟨oc_law_label, od_law_label, .func (PySem.W.fnOf "_law_label" "_law_label" (defArgs sc_law_labelS) (defBody sc_law_labelS) (defScope sc_law_labelS) .none kV_law_label dc_law_label pm_law_label an_law_label cd_law_label ct_law_label), sl_law_label⟩)
    (hc_law_label : PySem.W.codeIn K cd_law_label "_law_label" = true)
    (hk_law_label : PySem.W.keepIn K (.ref f_law_label) = true)
    (ha_law_word : PySem.W.nsIn K mainGlobals "_law_word" = some (some (.ref f_law_word)))
    (hl_law_word : K.lookup f_law_word = some ⟨oc_law_word, od_law_word, .func (PySem.W.fnOf "_law_word" "_law_word" (defArgs sc_law_wordS) (defBody sc_law_wordS) (defScope sc_law_wordS) .none kV_law_word dc_law_word pm_law_word an_law_word cd_law_word ct_law_word), sl_law_word⟩)
    (hc_law_word : PySem.W.codeIn K cd_law_word "_law_word" = true)
    (hk_law_word : PySem.W.keepIn K (.ref f_law_word) = true)
    (ha_law_words : PySem.W.nsIn K mainGlobals "_law_words" = some (some (.ref f_law_words)))
    (hl_law_words : K.lookup f_law_words = some ⟨oc_law_words, od_law_words, .func (PySem.W.fnOf "_law_words" "_law_words" (defArgs sc_law_wordsS) (defBody sc_law_wordsS) (defScope sc_law_wordsS) .none kV_law_words dc_law_words pm_law_words an_law_words cd_law_words ct_law_words), sl_law_words⟩)
    (hc_law_words : PySem.W.codeIn K cd_law_words "_law_words" = true)
    (hk_law_words : PySem.W.keepIn K (.ref f_law_words) = true)
    (ha_law_key : PySem.W.nsIn K mainGlobals "_law_key" = some (some (.ref f_law_key)))
    (hl_law_key : K.lookup f_law_key = some ⟨oc_law_key, od_law_key, .func (PySem.W.fnOf "_law_key" "_law_key" (defArgs sc_law_keyS) (defBody sc_law_keyS) (defScope sc_law_keyS) .none kV_law_key dc_law_key pm_law_key an_law_key cd_law_key ct_law_key), sl_law_key⟩)
    (hc_law_key : PySem.W.codeIn K cd_law_key "_law_key" = true)
    (hk_law_key : PySem.W.keepIn K (.ref f_law_key) = true)
    (ha_law_nodes : PySem.W.nsIn K mainGlobals "_law_nodes" = some (some (.ref f_law_nodes)))
    (hl_law_nodes : K.lookup f_law_nodes = some ⟨oc_law_nodes, od_law_nodes, .func (PySem.W.fnOf "_law_nodes" "_law_nodes" (defArgs sc_law_nodesS) (defBody sc_law_nodesS) (defScope sc_law_nodesS) .none kV_law_nodes dc_law_nodes pm_law_nodes an_law_nodes cd_law_nodes ct_law_nodes), sl_law_nodes⟩)
    (hc_law_nodes : PySem.W.codeIn K cd_law_nodes "_law_nodes" = true)
    (hk_law_nodes : PySem.W.keepIn K (.ref f_law_nodes) = true)
    (ha_law_place : PySem.W.nsIn K mainGlobals "_law_place" = some (some (.ref f_law_place)))
    (hl_law_place : K.lookup f_law_place = some ⟨oc_law_place, od_law_place, .func (PySem.W.fnOf "_law_place" "_law_place" (defArgs sc_law_placeS) (defBody sc_law_placeS) (defScope sc_law_placeS) .none kV_law_place dc_law_place pm_law_place an_law_place cd_law_place ct_law_place), sl_law_place⟩)
    (hc_law_place : PySem.W.codeIn K cd_law_place "_law_place" = true)
    (hk_law_place : PySem.W.keepIn K (.ref f_law_place) = true)
    (ha_law_kid : PySem.W.nsIn K mainGlobals "_law_kid" = some (some (.ref f_law_kid)))
    (hl_law_kid : K.lookup f_law_kid = some ⟨oc_law_kid, od_law_kid, .func (PySem.W.fnOf "_law_kid" "_law_kid" (defArgs sc_law_kidS) (defBody sc_law_kidS) (defScope sc_law_kidS) .none kV_law_kid dc_law_kid pm_law_kid an_law_kid cd_law_kid ct_law_kid), sl_law_kid⟩)
    (hc_law_kid : PySem.W.codeIn K cd_law_kid "_law_kid" = true)
    (hk_law_kid : PySem.W.keepIn K (.ref f_law_kid) = true)
    (ha_law_laid : PySem.W.nsIn K mainGlobals "_law_laid" = some (some (.ref f_law_laid)))
    (hl_law_laid : K.lookup f_law_laid = some ⟨oc_law_laid, od_law_laid, .func (PySem.W.fnOf "_law_laid" "_law_laid" (defArgs sc_law_laidS) (defBody sc_law_laidS) (defScope sc_law_laidS) .none kV_law_laid dc_law_laid pm_law_laid an_law_laid cd_law_laid ct_law_laid), sl_law_laid⟩)
    (hc_law_laid : PySem.W.codeIn K cd_law_laid "_law_laid" = true)
    (hk_law_laid : PySem.W.keepIn K (.ref f_law_laid) = true)
    (ha_law_gone : PySem.W.nsIn K mainGlobals "_law_gone" = some (some (.ref f_law_gone)))
    (hl_law_gone : K.lookup f_law_gone = some ⟨oc_law_gone, od_law_gone, .func (PySem.W.fnOf "_law_gone" "_law_gone" (defArgs sc_law_goneS) (defBody sc_law_goneS) (defScope sc_law_goneS) .none kV_law_gone dc_law_gone pm_law_gone an_law_gone cd_law_gone ct_law_gone), sl_law_gone⟩)
    (hc_law_gone : PySem.W.codeIn K cd_law_gone "_law_gone" = true)
    (hk_law_gone : PySem.W.keepIn K (.ref f_law_gone) = true)
    (ha_law_same : PySem.W.nsIn K mainGlobals "_law_same" = some (some (.ref f_law_same)))
    (hl_law_same : K.lookup f_law_same = some ⟨oc_law_same, od_law_same, .func (PySem.W.fnOf "_law_same" "_law_same" (defArgs sc_law_sameS) (defBody sc_law_sameS) (defScope sc_law_sameS) .none kV_law_same dc_law_same pm_law_same an_law_same cd_law_same ct_law_same), sl_law_same⟩)
    (hc_law_same : PySem.W.codeIn K cd_law_same "_law_same" = true)
    (hk_law_same : PySem.W.keepIn K (.ref f_law_same) = true)
    (ha_law_changed : PySem.W.nsIn K mainGlobals "_law_changed" = some (some (.ref f_law_changed)))
    (hl_law_changed : K.lookup f_law_changed = some ⟨oc_law_changed, od_law_changed, .func (PySem.W.fnOf "_law_changed" "_law_changed" (defArgs sc_law_changedS) (defBody sc_law_changedS) (defScope sc_law_changedS) .none kV_law_changed dc_law_changed pm_law_changed an_law_changed cd_law_changed ct_law_changed), sl_law_changed⟩)
    (hc_law_changed : PySem.W.codeIn K cd_law_changed "_law_changed" = true)
    (hk_law_changed : PySem.W.keepIn K (.ref f_law_changed) = true)
    (ha_law_less : PySem.W.nsIn K mainGlobals "_law_less" = some (some (.ref f_law_less)))
    (hl_law_less : K.lookup f_law_less = some ⟨oc_law_less, od_law_less, .func (PySem.W.fnOf "_law_less" "_law_less" (defArgs sc_law_lessS) (defBody sc_law_lessS) (defScope sc_law_lessS) .none kV_law_less dc_law_less pm_law_less an_law_less cd_law_less ct_law_less), sl_law_less⟩)
    (hc_law_less : PySem.W.codeIn K cd_law_less "_law_less" = true)
    (hk_law_less : PySem.W.keepIn K (.ref f_law_less) = true)
    (ha_law_deep : PySem.W.nsIn K mainGlobals "_law_deep" = some (some (.ref f_law_deep)))
    (hl_law_deep : K.lookup f_law_deep = some ⟨oc_law_deep, od_law_deep, .func (PySem.W.fnOf "_law_deep" "_law_deep" (defArgs sc_law_deepS) (defBody sc_law_deepS) (defScope sc_law_deepS) .none kV_law_deep dc_law_deep pm_law_deep an_law_deep cd_law_deep ct_law_deep), sl_law_deep⟩)
    (hc_law_deep : PySem.W.codeIn K cd_law_deep "_law_deep" = true)
    (hk_law_deep : PySem.W.keepIn K (.ref f_law_deep) = true)
    (ha_law_refused : PySem.W.nsIn K mainGlobals "_law_refused" = some (some (.ref f_law_refused)))
    (hl_law_refused : K.lookup f_law_refused = some ⟨oc_law_refused, od_law_refused, .func (PySem.W.fnOf "_law_refused" "_law_refused" (defArgs sc_law_refusedS) (defBody sc_law_refusedS) (defScope sc_law_refusedS) .none kV_law_refused dc_law_refused pm_law_refused an_law_refused cd_law_refused ct_law_refused), sl_law_refused⟩)
    (hc_law_refused : PySem.W.codeIn K cd_law_refused "_law_refused" = true)
    (hk_law_refused : PySem.W.keepIn K (.ref f_law_refused) = true)
    (ha_law_row_of_nodes : PySem.W.nsIn K mainGlobals "_law_row_of_nodes" = some (some (.ref f_law_row_of_nodes)))
    (hl_law_row_of_nodes : K.lookup f_law_row_of_nodes = some ⟨oc_law_row_of_nodes, od_law_row_of_nodes, .func (PySem.W.fnOf "_law_row_of_nodes" "_law_row_of_nodes" (defArgs sc_law_row_of_nodesS) (defBody sc_law_row_of_nodesS) (defScope sc_law_row_of_nodesS) .none kV_law_row_of_nodes dc_law_row_of_nodes pm_law_row_of_nodes an_law_row_of_nodes cd_law_row_of_nodes ct_law_row_of_nodes), sl_law_row_of_nodes⟩)
    (hc_law_row_of_nodes : PySem.W.codeIn K cd_law_row_of_nodes "_law_row_of_nodes" = true)
    (hk_law_row_of_nodes : PySem.W.keepIn K (.ref f_law_row_of_nodes) = true)
    (ha_law_drawn : PySem.W.nsIn K mainGlobals "_law_drawn" = some (some (.ref f_law_drawn)))
    (hl_law_drawn : K.lookup f_law_drawn = some ⟨oc_law_drawn, od_law_drawn, .func (PySem.W.fnOf "_law_drawn" "_law_drawn" (defArgs sc_law_drawnS) (defBody sc_law_drawnS) (defScope sc_law_drawnS) .none kV_law_drawn dc_law_drawn pm_law_drawn an_law_drawn cd_law_drawn ct_law_drawn), sl_law_drawn⟩)
    (hc_law_drawn : PySem.W.codeIn K cd_law_drawn "_law_drawn" = true)
    (hk_law_drawn : PySem.W.keepIn K (.ref f_law_drawn) = true)
    (ha_law_why : PySem.W.nsIn K mainGlobals "_law_why" = some (some (.ref f_law_why)))
    (hl_law_why : K.lookup f_law_why = some ⟨oc_law_why, od_law_why, .func (PySem.W.fnOf "_law_why" "_law_why" (defArgs sc_law_whyS) (defBody sc_law_whyS) (defScope sc_law_whyS) .none kV_law_why dc_law_why pm_law_why an_law_why cd_law_why ct_law_why), sl_law_why⟩)
    (hc_law_why : PySem.W.codeIn K cd_law_why "_law_why" = true)
    (hk_law_why : PySem.W.keepIn K (.ref f_law_why) = true)
    (ha_law_made : PySem.W.nsIn K mainGlobals "_law_made" = some (some (.ref f_law_made)))
    (hl_law_made : K.lookup f_law_made = some ⟨oc_law_made, od_law_made, .func (PySem.W.fnOf "_law_made" "_law_made" (defArgs sc_law_madeS) (defBody sc_law_madeS) (defScope sc_law_madeS) .none kV_law_made dc_law_made pm_law_made an_law_made cd_law_made ct_law_made), sl_law_made⟩)
    (hc_law_made : PySem.W.codeIn K cd_law_made "_law_made" = true)
    (hk_law_made : PySem.W.keepIn K (.ref f_law_made) = true)
    (ha_law_fields : PySem.W.nsIn K mainGlobals "_law_fields" = some (some (.ref f_law_fields)))
    (hl_law_fields : K.lookup f_law_fields = some ⟨oc_law_fields, od_law_fields, .func (PySem.W.fnOf "_law_fields" "_law_fields" (defArgs sc_law_fieldsS) (defBody sc_law_fieldsS) (defScope sc_law_fieldsS) .none kV_law_fields dc_law_fields pm_law_fields an_law_fields cd_law_fields ct_law_fields), sl_law_fields⟩)
    (hc_law_fields : PySem.W.codeIn K cd_law_fields "_law_fields" = true)
    (hk_law_fields : PySem.W.keepIn K (.ref f_law_fields) = true)
    (ha_law_noted : PySem.W.nsIn K mainGlobals "_law_noted" = some (some (.ref f_law_noted)))
    (hl_law_noted : K.lookup f_law_noted = some ⟨oc_law_noted, od_law_noted, .func (PySem.W.fnOf "_law_noted" "_law_noted" (defArgs sc_law_notedS) (defBody sc_law_notedS) (defScope sc_law_notedS) .none kV_law_noted dc_law_noted pm_law_noted an_law_noted cd_law_noted ct_law_noted), sl_law_noted⟩)
    (hc_law_noted : PySem.W.codeIn K cd_law_noted "_law_noted" = true)
    (hk_law_noted : PySem.W.keepIn K (.ref f_law_noted) = true)
    (ha_law_says : PySem.W.nsIn K mainGlobals "_law_says" = some (some (.ref f_law_says)))
    (hl_law_says : K.lookup f_law_says = some ⟨oc_law_says, od_law_says, .func (PySem.W.fnOf "_law_says" "_law_says" (defArgs sc_law_saysS) (defBody sc_law_saysS) (defScope sc_law_saysS) .none kV_law_says dc_law_says pm_law_says an_law_says cd_law_says ct_law_says), sl_law_says⟩)
    (hc_law_says : PySem.W.codeIn K cd_law_says "_law_says" = true)
    (hk_law_says : PySem.W.keepIn K (.ref f_law_says) = true)
    (halaw : PySem.W.nsIn K mainGlobals "law" = some (some (.ref flaw)))
    (hllaw : K.lookup flaw = some ⟨oclaw, odlaw, .func (PySem.W.fnOf "law" "law" (defArgs sc_lawS) (defBody sc_lawS) (defScope sc_lawS) .none kVlaw dclaw pmlaw anlaw cdlaw ctlaw), sllaw⟩)
    (hclaw : PySem.W.codeIn K cdlaw "law" = true)
    (hklaw : PySem.W.keepIn K (.ref flaw) = true)
    (ha_law_tree : PySem.W.nsIn K mainGlobals "_law_tree" = some (some (.ref f_law_tree)))
    (hl_law_tree : K.lookup f_law_tree = some ⟨oc_law_tree, od_law_tree, .func (PySem.W.fnOf "_law_tree" "_law_tree" (defArgs sc_law_treeS) (defBody sc_law_treeS) (defScope sc_law_treeS) .none kV_law_tree dc_law_tree pm_law_tree an_law_tree (.ref c_law_tree_) ct_law_tree), sl_law_tree⟩)
    (hc_law_tree : PySem.W.codeIn K (.ref c_law_tree_) "_law_tree" = true)
    (hk_law_tree : PySem.W.keepIn K (.ref f_law_tree) = true)
    (ht_law_tree : PySem.W.codeHdIn K c_law_tree_ p_law_tree_ = true)
    (hu_law_tree : K.lookup p_law_tree_ = none)
    (he_law_tree : h.get? p_law_tree_ = some { cls := .none, data := .fields #[] })
    (ha_law_with : PySem.W.nsIn K mainGlobals "_law_with" = some (some (.ref f_law_with)))
    (hl_law_with : K.lookup f_law_with = some ⟨oc_law_with, od_law_with, .func (PySem.W.fnOf "_law_with" "_law_with" (defArgs sc_law_withS) (defBody sc_law_withS) (defScope sc_law_withS) .none kV_law_with dc_law_with pm_law_with an_law_with (.ref c_law_with_) ct_law_with), sl_law_with⟩)
    (hc_law_with : PySem.W.codeIn K (.ref c_law_with_) "_law_with" = true)
    (hk_law_with : PySem.W.keepIn K (.ref f_law_with) = true)
    (ht_law_with : PySem.W.codeHdIn K c_law_with_ p_law_with_ = true)
    (hu_law_with : K.lookup p_law_with_ = none)
    (he_law_with : h.get? p_law_with_ = some { cls := .none, data := .fields #[] })
    (ha_law_due : PySem.W.nsIn K mainGlobals "_law_due" = some (some (.ref f_law_due)))
    (hl_law_due : K.lookup f_law_due = some ⟨oc_law_due, od_law_due, .func (PySem.W.fnOf "_law_due" "_law_due" (defArgs sc_law_dueS) (defBody sc_law_dueS) (defScope sc_law_dueS) .none kV_law_due dc_law_due pm_law_due an_law_due (.ref c_law_due_) ct_law_due), sl_law_due⟩)
    (hc_law_due : PySem.W.codeIn K (.ref c_law_due_) "_law_due" = true)
    (hk_law_due : PySem.W.keepIn K (.ref f_law_due) = true)
    (ht_law_due : PySem.W.codeHdIn K c_law_due_ p_law_due_ = true)
    (hu_law_due : K.lookup p_law_due_ = none)
    (he_law_due : h.get? p_law_due_ = some { cls := .none, data := .fields #[] })
    (hn1 : p_law_tree_ ≠ p_law_with_)
    (hn2 : p_law_tree_ ≠ p_law_due_)
    (hn3 : p_law_with_ ≠ p_law_due_)
    (hgR : PySem.W.nsIn K mainGlobals "Read" = some (some (.ref CR)))
    (hgP : PySem.W.nsIn K mainGlobals "PutIn" = some (some (.ref CP)))
    (hgL : PySem.W.nsIn K mainGlobals "LeaveOut" = some (some (.ref CL)))
    (hgH : PySem.W.nsIn K mainGlobals "Change" = some (some (.ref CH)))
    (hgN : PySem.W.nsIn K mainGlobals "NoFit" = some (some (.ref CN)))
    (hgM : PySem.W.nsIn K mainGlobals "MendError" = some (some (.ref CM)))
    (hgNoText : PySem.W.nsIn K mainGlobals "NoText" = some (some (.ref CNoText)))
    (hgNoPlace : PySem.W.nsIn K mainGlobals "NoPlace" = some (some (.ref CNoPlace)))
    (hgNoName : PySem.W.nsIn K mainGlobals "NoName" = some (some (.ref CNoName)))
    (hgTwice : PySem.W.nsIn K mainGlobals "Twice" = some (some (.ref CTwice)))
    (hgNoDay : PySem.W.nsIn K mainGlobals "NoDay" = some (some (.ref CNoDay)))
    (hgNoAct : PySem.W.nsIn K mainGlobals "NoAct" = some (some (.ref CNoAct)))
    (hgNoRow : PySem.W.nsIn K mainGlobals "NoRow" = some (some (.ref CNoRow)))
    (hpgR : PySem.W.plainGet K CR Str.empty = true)
    (hhdR : PySem.W.hasDictIn K CR = true)
    (hpoR : PySem.W.plainOver K CR = true)
    (hsaR : PySem.W.findIn K (.ref CR) "__setattr__" = some (some (.builtin "object.__setattr__")))
    (hnpR : PySem.W.findIn K (.ref CR) "place" = some none)
    (hnwR : PySem.W.findIn K (.ref CR) "words" = some none)
    (hnnR : PySem.W.findIn K (.ref CR) "node" = some none)
    (hccR : PySem.W.findIn K (.ref CR) "__class__" = some (some (.builtin "object.__class__")))
    (hmrR : PySem.W.mroIn K CR (.type "object") = some true)
    (hsbR : PySem.W.subIn K (.ref CR) (.ref CH) = some true)
    (hmkR : PySem.W.makesIn K CR = true)
    (hkcR : PySem.W.keepIn K (.ref CR) = true)
    (hfiR : PySem.W.findIn K (.ref CR) "__init__" = some (some (.ref fRead__init__)))
    (hfrR : PySem.W.findIn K (.ref CR) "reason" = some (some (.ref fReadreason)))
    (hfmR : PySem.W.findIn K (.ref CR) "made" = some (some (.ref fReadmade)))
    (hfdR : PySem.W.findIn K (.ref CR) "done" = some (some (.ref fChangedone)))
    (hpgP : PySem.W.plainGet K CP Str.empty = true)
    (hhdP : PySem.W.hasDictIn K CP = true)
    (hpoP : PySem.W.plainOver K CP = true)
    (hsaP : PySem.W.findIn K (.ref CP) "__setattr__" = some (some (.builtin "object.__setattr__")))
    (hnpP : PySem.W.findIn K (.ref CP) "place" = some none)
    (hnwP : PySem.W.findIn K (.ref CP) "words" = some none)
    (hnnP : PySem.W.findIn K (.ref CP) "node" = some none)
    (hccP : PySem.W.findIn K (.ref CP) "__class__" = some (some (.builtin "object.__class__")))
    (hmrP : PySem.W.mroIn K CP (.type "object") = some true)
    (hsbP : PySem.W.subIn K (.ref CP) (.ref CH) = some true)
    (hmkP : PySem.W.makesIn K CP = true)
    (hkcP : PySem.W.keepIn K (.ref CP) = true)
    (hfiP : PySem.W.findIn K (.ref CP) "__init__" = some (some (.ref fPutIn__init__)))
    (hfrP : PySem.W.findIn K (.ref CP) "reason" = some (some (.ref fPutInreason)))
    (hfmP : PySem.W.findIn K (.ref CP) "made" = some (some (.ref fPutInmade)))
    (hfdP : PySem.W.findIn K (.ref CP) "done" = some (some (.ref fChangedone)))
    (hpgL : PySem.W.plainGet K CL Str.empty = true)
    (hhdL : PySem.W.hasDictIn K CL = true)
    (hpoL : PySem.W.plainOver K CL = true)
    (hsaL : PySem.W.findIn K (.ref CL) "__setattr__" = some (some (.builtin "object.__setattr__")))
    (hnpL : PySem.W.findIn K (.ref CL) "place" = some none)
    (hnwL : PySem.W.findIn K (.ref CL) "words" = some none)
    (hnnL : PySem.W.findIn K (.ref CL) "node" = some none)
    (hccL : PySem.W.findIn K (.ref CL) "__class__" = some (some (.builtin "object.__class__")))
    (hmrL : PySem.W.mroIn K CL (.type "object") = some true)
    (hsbL : PySem.W.subIn K (.ref CL) (.ref CH) = some true)
    (hmkL : PySem.W.makesIn K CL = true)
    (hkcL : PySem.W.keepIn K (.ref CL) = true)
    (hfiL : PySem.W.findIn K (.ref CL) "__init__" = some (some (.ref fLeaveOut__init__)))
    (hfrL : PySem.W.findIn K (.ref CL) "reason" = some (some (.ref fLeaveOutreason)))
    (hfmL : PySem.W.findIn K (.ref CL) "made" = some (some (.ref fLeaveOutmade)))
    (hfdL : PySem.W.findIn K (.ref CL) "done" = some (some (.ref fChangedone)))
    (hiN : PySem.W.findIn K (.ref CN) "__init__" = some (some (.ref fNoFit__init__)))
    (hlRead__init__ : K.lookup fRead__init__ = some ⟨ocRead__init__, odRead__init__, .func (PySem.W.fnOf "__init__" "Read.__init__" (defArgs sc_Read_initS) (defBody sc_Read_initS) (defScope sc_Read_initS) .none kVRead__init__ dcRead__init__ pmRead__init__ anRead__init__ cdRead__init__ ctRead__init__), slRead__init__⟩)
    (hcRead__init__ : PySem.W.codeIn K cdRead__init__ "Read.__init__" = true)
    (hkRead__init__ : PySem.W.keepIn K (.ref fRead__init__) = true)
    (hiRead__init__ : PySem.W.isFn K (.ref fRead__init__) = true)
    (hlReadreason : K.lookup fReadreason = some ⟨ocReadreason, odReadreason, .func (PySem.W.fnOf "reason" "Read.reason" (defArgs sc_Read_reasonS) (defBody sc_Read_reasonS) (defScope sc_Read_reasonS) .none kVReadreason dcReadreason pmReadreason anReadreason cdReadreason ctReadreason), slReadreason⟩)
    (hcReadreason : PySem.W.codeIn K cdReadreason "Read.reason" = true)
    (hkReadreason : PySem.W.keepIn K (.ref fReadreason) = true)
    (hiReadreason : PySem.W.isFn K (.ref fReadreason) = true)
    (hlReadmade : K.lookup fReadmade = some ⟨ocReadmade, odReadmade, .func (PySem.W.fnOf "made" "Read.made" (defArgs sc_Read_madeS) (defBody sc_Read_madeS) (defScope sc_Read_madeS) .none kVReadmade dcReadmade pmReadmade anReadmade cdReadmade ctReadmade), slReadmade⟩)
    (hcReadmade : PySem.W.codeIn K cdReadmade "Read.made" = true)
    (hkReadmade : PySem.W.keepIn K (.ref fReadmade) = true)
    (hiReadmade : PySem.W.isFn K (.ref fReadmade) = true)
    (hlPutIn__init__ : K.lookup fPutIn__init__ = some ⟨ocPutIn__init__, odPutIn__init__, .func (PySem.W.fnOf "__init__" "PutIn.__init__" (defArgs sc_PutIn_initS) (defBody sc_PutIn_initS) (defScope sc_PutIn_initS) .none kVPutIn__init__ dcPutIn__init__ pmPutIn__init__ anPutIn__init__ cdPutIn__init__ ctPutIn__init__), slPutIn__init__⟩)
    (hcPutIn__init__ : PySem.W.codeIn K cdPutIn__init__ "PutIn.__init__" = true)
    (hkPutIn__init__ : PySem.W.keepIn K (.ref fPutIn__init__) = true)
    (hiPutIn__init__ : PySem.W.isFn K (.ref fPutIn__init__) = true)
    (hlPutInreason : K.lookup fPutInreason = some ⟨ocPutInreason, odPutInreason, .func (PySem.W.fnOf "reason" "PutIn.reason" (defArgs sc_PutIn_reasonS) (defBody sc_PutIn_reasonS) (defScope sc_PutIn_reasonS) .none kVPutInreason dcPutInreason pmPutInreason anPutInreason cdPutInreason ctPutInreason), slPutInreason⟩)
    (hcPutInreason : PySem.W.codeIn K cdPutInreason "PutIn.reason" = true)
    (hkPutInreason : PySem.W.keepIn K (.ref fPutInreason) = true)
    (hiPutInreason : PySem.W.isFn K (.ref fPutInreason) = true)
    (hlPutInmade : K.lookup fPutInmade = some ⟨ocPutInmade, odPutInmade, .func (PySem.W.fnOf "made" "PutIn.made" (defArgs sc_PutIn_madeS) (defBody sc_PutIn_madeS) (defScope sc_PutIn_madeS) .none kVPutInmade dcPutInmade pmPutInmade anPutInmade cdPutInmade ctPutInmade), slPutInmade⟩)
    (hcPutInmade : PySem.W.codeIn K cdPutInmade "PutIn.made" = true)
    (hkPutInmade : PySem.W.keepIn K (.ref fPutInmade) = true)
    (hiPutInmade : PySem.W.isFn K (.ref fPutInmade) = true)
    (hlLeaveOut__init__ : K.lookup fLeaveOut__init__ = some ⟨ocLeaveOut__init__, odLeaveOut__init__, .func (PySem.W.fnOf "__init__" "LeaveOut.__init__" (defArgs sc_LeaveOut_initS) (defBody sc_LeaveOut_initS) (defScope sc_LeaveOut_initS) .none kVLeaveOut__init__ dcLeaveOut__init__ pmLeaveOut__init__ anLeaveOut__init__ cdLeaveOut__init__ ctLeaveOut__init__), slLeaveOut__init__⟩)
    (hcLeaveOut__init__ : PySem.W.codeIn K cdLeaveOut__init__ "LeaveOut.__init__" = true)
    (hkLeaveOut__init__ : PySem.W.keepIn K (.ref fLeaveOut__init__) = true)
    (hiLeaveOut__init__ : PySem.W.isFn K (.ref fLeaveOut__init__) = true)
    (hlLeaveOutreason : K.lookup fLeaveOutreason = some ⟨ocLeaveOutreason, odLeaveOutreason, .func (PySem.W.fnOf "reason" "LeaveOut.reason" (defArgs sc_LeaveOut_reasonS) (defBody sc_LeaveOut_reasonS) (defScope sc_LeaveOut_reasonS) .none kVLeaveOutreason dcLeaveOutreason pmLeaveOutreason anLeaveOutreason cdLeaveOutreason ctLeaveOutreason), slLeaveOutreason⟩)
    (hcLeaveOutreason : PySem.W.codeIn K cdLeaveOutreason "LeaveOut.reason" = true)
    (hkLeaveOutreason : PySem.W.keepIn K (.ref fLeaveOutreason) = true)
    (hiLeaveOutreason : PySem.W.isFn K (.ref fLeaveOutreason) = true)
    (hlLeaveOutmade : K.lookup fLeaveOutmade = some ⟨ocLeaveOutmade, odLeaveOutmade, .func (PySem.W.fnOf "made" "LeaveOut.made" (defArgs sc_LeaveOut_madeS) (defBody sc_LeaveOut_madeS) (defScope sc_LeaveOut_madeS) .none kVLeaveOutmade dcLeaveOutmade pmLeaveOutmade anLeaveOutmade cdLeaveOutmade ctLeaveOutmade), slLeaveOutmade⟩)
    (hcLeaveOutmade : PySem.W.codeIn K cdLeaveOutmade "LeaveOut.made" = true)
    (hkLeaveOutmade : PySem.W.keepIn K (.ref fLeaveOutmade) = true)
    (hiLeaveOutmade : PySem.W.isFn K (.ref fLeaveOutmade) = true)
    (hlChangedone : K.lookup fChangedone = some ⟨ocChangedone, odChangedone, .func (PySem.W.fnOf "done" "Change.done" (defArgs sc_Change_doneS) (defBody sc_Change_doneS) (defScope sc_Change_doneS) .none kVChangedone dcChangedone pmChangedone anChangedone cdChangedone ctChangedone), slChangedone⟩)
    (hcChangedone : PySem.W.codeIn K cdChangedone "Change.done" = true)
    (hkChangedone : PySem.W.keepIn K (.ref fChangedone) = true)
    (hiChangedone : PySem.W.isFn K (.ref fChangedone) = true)
    (hlNoFit__init__ : K.lookup fNoFit__init__ = some ⟨ocNoFit__init__, odNoFit__init__, .func (PySem.W.fnOf "__init__" "NoFit.__init__" (defArgs sc_NoFit_initS) (defBody sc_NoFit_initS) (defScope sc_NoFit_initS) .none kVNoFit__init__ dcNoFit__init__ pmNoFit__init__ anNoFit__init__ cdNoFit__init__ ctNoFit__init__), slNoFit__init__⟩)
    (hcNoFit__init__ : PySem.W.codeIn K cdNoFit__init__ "NoFit.__init__" = true)
    (hkNoFit__init__ : PySem.W.keepIn K (.ref fNoFit__init__) = true)
    (hiNoFit__init__ : PySem.W.isFn K (.ref fNoFit__init__) = true)
    (hicH : PySem.W.isClsIn K CH = true)
    (htyH : PySem.W.typeIn K (.ref CH) = some (.type "type"))
    (hspc : PySem.W.specialIn K (.builtin "object.__class__") "__get__" = some (some (.builtin "getset_descriptor.__get__")))
    (htkc : PySem.W.takesIn K (.builtin "object.__class__") = some true)
    (hxL : K.lookup CN = some (excClassObj nmN qN CN aN bsN bmN true snN suN abN coN ddN x0 x1 x2 x3 x5 "ValueError.__new__"))
    (hrv : PySem.HandSPX.refsVE bmN = true)
    (hsaN : PySem.W.findIn K (.ref CN) "__setattr__" = some (some (.builtin "object.__setattr__")))
    (hgaN : PySem.W.findIn K (.ref CN) "__getattribute__" = some (some (.builtin "BaseException.__getattribute__")))
    (hggN : PySem.W.findIn K (.ref CN) "__getattr__" = some none)
    (hexN : PySem.W.subIn K (.ref CN) (.type "BaseException") = some true)
    (htyN : PySem.W.typeIn K (.ref CN) = some (.type "type"))
    (hkcN : PySem.W.keepIn K (.ref CN) = true)
    (htiN : PySem.W.typeIn K (.ref fNoFit__init__) = some (.type "function"))
    (hhdN : PySem.W.hasDictIn K CN = true)
    (hnoN : PySem.W.findIn K (.ref CN) "why" = some none)
    (hclN : PySem.W.findIn K (.ref CN) "__class__" = some (some (.builtin "object.__class__")))
    (hmrN : PySem.W.mroIn K CN (.type "object") = some true)
    (hveN : PySem.W.subIn K (.ref CN) (.type "ValueError") = some true)
    (hexM : PySem.W.subIn K (.ref CM) (.type "BaseException") = some true)
    (hhdM : PySem.W.hasDictIn K CM = true)
    (htyM : PySem.W.typeIn K (.ref CM) = some (.type "type"))
    (hsbM : PySem.W.subIn K (.ref CN) (.ref CM) = some true)
    (hicNoText : PySem.W.isClsIn K CNoText = true)
    (htyNoText : PySem.W.typeIn K (.ref CNoText) = some (.type "type"))
    (hsbNoText : PySem.W.subIn K (.ref CN) (.ref CNoText) = some false)
    (hneNoText : (Value.ref CN == Value.ref CNoText) = false)
    (hicNoPlace : PySem.W.isClsIn K CNoPlace = true)
    (htyNoPlace : PySem.W.typeIn K (.ref CNoPlace) = some (.type "type"))
    (hsbNoPlace : PySem.W.subIn K (.ref CN) (.ref CNoPlace) = some false)
    (hneNoPlace : (Value.ref CN == Value.ref CNoPlace) = false)
    (hicNoName : PySem.W.isClsIn K CNoName = true)
    (htyNoName : PySem.W.typeIn K (.ref CNoName) = some (.type "type"))
    (hsbNoName : PySem.W.subIn K (.ref CN) (.ref CNoName) = some false)
    (hneNoName : (Value.ref CN == Value.ref CNoName) = false)
    (hicTwice : PySem.W.isClsIn K CTwice = true)
    (htyTwice : PySem.W.typeIn K (.ref CTwice) = some (.type "type"))
    (hsbTwice : PySem.W.subIn K (.ref CN) (.ref CTwice) = some false)
    (hneTwice : (Value.ref CN == Value.ref CTwice) = false)
    (hicNoDay : PySem.W.isClsIn K CNoDay = true)
    (htyNoDay : PySem.W.typeIn K (.ref CNoDay) = some (.type "type"))
    (hsbNoDay : PySem.W.subIn K (.ref CN) (.ref CNoDay) = some false)
    (hneNoDay : (Value.ref CN == Value.ref CNoDay) = false)
    (hicNoAct : PySem.W.isClsIn K CNoAct = true)
    (htyNoAct : PySem.W.typeIn K (.ref CNoAct) = some (.type "type"))
    (hsbNoAct : PySem.W.subIn K (.ref CN) (.ref CNoAct) = some false)
    (hneNoAct : (Value.ref CN == Value.ref CNoAct) = false)
    (hicNoRow : PySem.W.isClsIn K CNoRow = true)
    (htyNoRow : PySem.W.typeIn K (.ref CNoRow) = some (.type "type"))
    (hsbNoRow : PySem.W.subIn K (.ref CN) (.ref CNoRow) = some false)
    (hneNoRow : (Value.ref CN == Value.ref CNoRow) = false)
    (hzlen : PySem.W.nsIn K mainGlobals "len" = some none)
    (hzint : PySem.W.nsIn K mainGlobals "int" = some none)
    (hzstr : PySem.W.nsIn K mainGlobals "str" = some none)
    (hztuple : PySem.W.nsIn K mainGlobals "tuple" = some none)
    (hzlist : PySem.W.nsIn K mainGlobals "list" = some none)
    (hzdict : PySem.W.nsIn K mainGlobals "dict" = some none)
    (hzmax : PySem.W.nsIn K mainGlobals "max" = some none)
    (hzmin : PySem.W.nsIn K mainGlobals "min" = some none)
    (hzsorted : PySem.W.nsIn K mainGlobals "sorted" = some none)
    (hzrange : PySem.W.nsIn K mainGlobals "range" = some none)
    (hzzip : PySem.W.nsIn K mainGlobals "zip" = some none)
    (hzisinstance : PySem.W.nsIn K mainGlobals "isinstance" = some none)
    (hzVE : PySem.W.nsIn K mainGlobals "ValueError" = some none)
    (hgF : PySem.W.nsIn K mainGlobals "FIGURES" = some (some (.str "0123456789" ft)))
    (hgD : PySem.W.nsIn K mainGlobals "DEEPEST" = some (some (.int 9 dt)))
    : LawAtS l w K CX0 23 63 "_law_script" mg fa h := by
  have e := hfa.symm.trans (PySem.W.mg_of X G halaw)
  cases e
  let A : Ad := ⟨ffigures_in, frank_of, flabel_before, fkid_of, fnode_at, fdeep, fwith_node, fthere_at, fwith_words, fwith_kid, fwithout, f_law_label, f_law_word, f_law_words, f_law_key, f_law_nodes, f_law_place, f_law_kid, f_law_laid, f_law_gone, f_law_same, f_law_changed, f_law_less, f_law_deep, f_law_refused, f_law_row_of_nodes, f_law_drawn, f_law_why, f_law_made, f_law_fields, f_law_noted, f_law_says, fa, f_law_tree, f_law_with, f_law_due, c_law_tree_, p_law_tree_, c_law_with_, p_law_with_, c_law_due_, p_law_due_, fRead__init__, fReadreason, fReadmade, fPutIn__init__, fPutInreason, fPutInmade, fLeaveOut__init__, fLeaveOutreason, fLeaveOutmade, fChangedone, fNoFit__init__, CH, CN, CM⟩
  let fd : Fds := ⟨PySem.W.fnOf "figures_in" "figures_in" (defArgs sc_figures_inS) (defBody sc_figures_inS) (defScope sc_figures_inS) .none kVfigures_in dcfigures_in pmfigures_in anfigures_in cdfigures_in ctfigures_in, PySem.W.fnOf "rank_of" "rank_of" (defArgs sc_rank_ofS) (defBody sc_rank_ofS) (defScope sc_rank_ofS) .none kVrank_of dcrank_of pmrank_of anrank_of cdrank_of ctrank_of, PySem.W.fnOf "label_before" "label_before" (defArgs sc_label_beforeS) (defBody sc_label_beforeS) (defScope sc_label_beforeS) .none kVlabel_before dclabel_before pmlabel_before anlabel_before cdlabel_before ctlabel_before, PySem.W.fnOf "kid_of" "kid_of" (defArgs sc_kid_ofS) (defBody sc_kid_ofS) (defScope sc_kid_ofS) .none kVkid_of dckid_of pmkid_of ankid_of cdkid_of ctkid_of, PySem.W.fnOf "node_at" "node_at" (defArgs sc_node_atS) (defBody sc_node_atS) (defScope sc_node_atS) .none kVnode_at dcnode_at pmnode_at annode_at cdnode_at ctnode_at, PySem.W.fnOf "deep" "deep" (defArgs sc_deepS) (defBody sc_deepS) (defScope sc_deepS) .none kVdeep dcdeep pmdeep andeep cddeep ctdeep, PySem.W.fnOf "with_node" "with_node" (defArgs sc_with_nodeS) (defBody sc_with_nodeS) (defScope sc_with_nodeS) .none kVwith_node dcwith_node pmwith_node anwith_node cdwith_node ctwith_node, PySem.W.fnOf "there_at" "there_at" (defArgs sc_there_atS) (defBody sc_there_atS) (defScope sc_there_atS) .none kVthere_at dcthere_at pmthere_at anthere_at cdthere_at ctthere_at, PySem.W.fnOf "with_words" "with_words" (defArgs sc_with_wordsS) (defBody sc_with_wordsS) (defScope sc_with_wordsS) .none kVwith_words dcwith_words pmwith_words anwith_words cdwith_words ctwith_words, PySem.W.fnOf "with_kid" "with_kid" (defArgs sc_with_kidS) (defBody sc_with_kidS) (defScope sc_with_kidS) .none kVwith_kid dcwith_kid pmwith_kid anwith_kid cdwith_kid ctwith_kid, PySem.W.fnOf "without" "without" (defArgs sc_withoutS) (defBody sc_withoutS) (defScope sc_withoutS) .none kVwithout dcwithout pmwithout anwithout cdwithout ctwithout, PySem.W.fnOf "_law_label" "_law_label" (defArgs sc_law_labelS) (defBody sc_law_labelS) (defScope sc_law_labelS) .none kV_law_label dc_law_label pm_law_label an_law_label cd_law_label ct_law_label, PySem.W.fnOf "_law_word" "_law_word" (defArgs sc_law_wordS) (defBody sc_law_wordS) (defScope sc_law_wordS) .none kV_law_word dc_law_word pm_law_word an_law_word cd_law_word ct_law_word, PySem.W.fnOf "_law_words" "_law_words" (defArgs sc_law_wordsS) (defBody sc_law_wordsS) (defScope sc_law_wordsS) .none kV_law_words dc_law_words pm_law_words an_law_words cd_law_words ct_law_words, PySem.W.fnOf "_law_key" "_law_key" (defArgs sc_law_keyS) (defBody sc_law_keyS) (defScope sc_law_keyS) .none kV_law_key dc_law_key pm_law_key an_law_key cd_law_key ct_law_key, PySem.W.fnOf "_law_nodes" "_law_nodes" (defArgs sc_law_nodesS) (defBody sc_law_nodesS) (defScope sc_law_nodesS) .none kV_law_nodes dc_law_nodes pm_law_nodes an_law_nodes cd_law_nodes ct_law_nodes, PySem.W.fnOf "_law_place" "_law_place" (defArgs sc_law_placeS) (defBody sc_law_placeS) (defScope sc_law_placeS) .none kV_law_place dc_law_place pm_law_place an_law_place cd_law_place ct_law_place, PySem.W.fnOf "_law_kid" "_law_kid" (defArgs sc_law_kidS) (defBody sc_law_kidS) (defScope sc_law_kidS) .none kV_law_kid dc_law_kid pm_law_kid an_law_kid cd_law_kid ct_law_kid, PySem.W.fnOf "_law_laid" "_law_laid" (defArgs sc_law_laidS) (defBody sc_law_laidS) (defScope sc_law_laidS) .none kV_law_laid dc_law_laid pm_law_laid an_law_laid cd_law_laid ct_law_laid, PySem.W.fnOf "_law_gone" "_law_gone" (defArgs sc_law_goneS) (defBody sc_law_goneS) (defScope sc_law_goneS) .none kV_law_gone dc_law_gone pm_law_gone an_law_gone cd_law_gone ct_law_gone, PySem.W.fnOf "_law_same" "_law_same" (defArgs sc_law_sameS) (defBody sc_law_sameS) (defScope sc_law_sameS) .none kV_law_same dc_law_same pm_law_same an_law_same cd_law_same ct_law_same, PySem.W.fnOf "_law_changed" "_law_changed" (defArgs sc_law_changedS) (defBody sc_law_changedS) (defScope sc_law_changedS) .none kV_law_changed dc_law_changed pm_law_changed an_law_changed cd_law_changed ct_law_changed, PySem.W.fnOf "_law_less" "_law_less" (defArgs sc_law_lessS) (defBody sc_law_lessS) (defScope sc_law_lessS) .none kV_law_less dc_law_less pm_law_less an_law_less cd_law_less ct_law_less, PySem.W.fnOf "_law_deep" "_law_deep" (defArgs sc_law_deepS) (defBody sc_law_deepS) (defScope sc_law_deepS) .none kV_law_deep dc_law_deep pm_law_deep an_law_deep cd_law_deep ct_law_deep, PySem.W.fnOf "_law_refused" "_law_refused" (defArgs sc_law_refusedS) (defBody sc_law_refusedS) (defScope sc_law_refusedS) .none kV_law_refused dc_law_refused pm_law_refused an_law_refused cd_law_refused ct_law_refused, PySem.W.fnOf "_law_row_of_nodes" "_law_row_of_nodes" (defArgs sc_law_row_of_nodesS) (defBody sc_law_row_of_nodesS) (defScope sc_law_row_of_nodesS) .none kV_law_row_of_nodes dc_law_row_of_nodes pm_law_row_of_nodes an_law_row_of_nodes cd_law_row_of_nodes ct_law_row_of_nodes, PySem.W.fnOf "_law_drawn" "_law_drawn" (defArgs sc_law_drawnS) (defBody sc_law_drawnS) (defScope sc_law_drawnS) .none kV_law_drawn dc_law_drawn pm_law_drawn an_law_drawn cd_law_drawn ct_law_drawn, PySem.W.fnOf "_law_why" "_law_why" (defArgs sc_law_whyS) (defBody sc_law_whyS) (defScope sc_law_whyS) .none kV_law_why dc_law_why pm_law_why an_law_why cd_law_why ct_law_why, PySem.W.fnOf "_law_made" "_law_made" (defArgs sc_law_madeS) (defBody sc_law_madeS) (defScope sc_law_madeS) .none kV_law_made dc_law_made pm_law_made an_law_made cd_law_made ct_law_made, PySem.W.fnOf "_law_fields" "_law_fields" (defArgs sc_law_fieldsS) (defBody sc_law_fieldsS) (defScope sc_law_fieldsS) .none kV_law_fields dc_law_fields pm_law_fields an_law_fields cd_law_fields ct_law_fields, PySem.W.fnOf "_law_noted" "_law_noted" (defArgs sc_law_notedS) (defBody sc_law_notedS) (defScope sc_law_notedS) .none kV_law_noted dc_law_noted pm_law_noted an_law_noted cd_law_noted ct_law_noted, PySem.W.fnOf "_law_says" "_law_says" (defArgs sc_law_saysS) (defBody sc_law_saysS) (defScope sc_law_saysS) .none kV_law_says dc_law_says pm_law_says an_law_says cd_law_says ct_law_says, PySem.W.fnOf "law" "law" (defArgs sc_lawS) (defBody sc_lawS) (defScope sc_lawS) .none kVlaw dclaw pmlaw anlaw cdlaw ctlaw, PySem.W.fnOf "_law_tree" "_law_tree" (defArgs sc_law_treeS) (defBody sc_law_treeS) (defScope sc_law_treeS) .none kV_law_tree dc_law_tree pm_law_tree an_law_tree (.ref c_law_tree_) ct_law_tree, PySem.W.fnOf "_law_with" "_law_with" (defArgs sc_law_withS) (defBody sc_law_withS) (defScope sc_law_withS) .none kV_law_with dc_law_with pm_law_with an_law_with (.ref c_law_with_) ct_law_with, PySem.W.fnOf "_law_due" "_law_due" (defArgs sc_law_dueS) (defBody sc_law_dueS) (defScope sc_law_dueS) .none kV_law_due dc_law_due pm_law_due an_law_due (.ref c_law_due_) ct_law_due, PySem.W.fnOf "__init__" "Read.__init__" (defArgs sc_Read_initS) (defBody sc_Read_initS) (defScope sc_Read_initS) .none kVRead__init__ dcRead__init__ pmRead__init__ anRead__init__ cdRead__init__ ctRead__init__, PySem.W.fnOf "reason" "Read.reason" (defArgs sc_Read_reasonS) (defBody sc_Read_reasonS) (defScope sc_Read_reasonS) .none kVReadreason dcReadreason pmReadreason anReadreason cdReadreason ctReadreason, PySem.W.fnOf "made" "Read.made" (defArgs sc_Read_madeS) (defBody sc_Read_madeS) (defScope sc_Read_madeS) .none kVReadmade dcReadmade pmReadmade anReadmade cdReadmade ctReadmade, PySem.W.fnOf "__init__" "PutIn.__init__" (defArgs sc_PutIn_initS) (defBody sc_PutIn_initS) (defScope sc_PutIn_initS) .none kVPutIn__init__ dcPutIn__init__ pmPutIn__init__ anPutIn__init__ cdPutIn__init__ ctPutIn__init__, PySem.W.fnOf "reason" "PutIn.reason" (defArgs sc_PutIn_reasonS) (defBody sc_PutIn_reasonS) (defScope sc_PutIn_reasonS) .none kVPutInreason dcPutInreason pmPutInreason anPutInreason cdPutInreason ctPutInreason, PySem.W.fnOf "made" "PutIn.made" (defArgs sc_PutIn_madeS) (defBody sc_PutIn_madeS) (defScope sc_PutIn_madeS) .none kVPutInmade dcPutInmade pmPutInmade anPutInmade cdPutInmade ctPutInmade, PySem.W.fnOf "__init__" "LeaveOut.__init__" (defArgs sc_LeaveOut_initS) (defBody sc_LeaveOut_initS) (defScope sc_LeaveOut_initS) .none kVLeaveOut__init__ dcLeaveOut__init__ pmLeaveOut__init__ anLeaveOut__init__ cdLeaveOut__init__ ctLeaveOut__init__, PySem.W.fnOf "reason" "LeaveOut.reason" (defArgs sc_LeaveOut_reasonS) (defBody sc_LeaveOut_reasonS) (defScope sc_LeaveOut_reasonS) .none kVLeaveOutreason dcLeaveOutreason pmLeaveOutreason anLeaveOutreason cdLeaveOutreason ctLeaveOutreason, PySem.W.fnOf "made" "LeaveOut.made" (defArgs sc_LeaveOut_madeS) (defBody sc_LeaveOut_madeS) (defScope sc_LeaveOut_madeS) .none kVLeaveOutmade dcLeaveOutmade pmLeaveOutmade anLeaveOutmade cdLeaveOutmade ctLeaveOutmade, PySem.W.fnOf "done" "Change.done" (defArgs sc_Change_doneS) (defBody sc_Change_doneS) (defScope sc_Change_doneS) .none kVChangedone dcChangedone pmChangedone anChangedone cdChangedone ctChangedone, PySem.W.fnOf "__init__" "NoFit.__init__" (defArgs sc_NoFit_initS) (defBody sc_NoFit_initS) (defScope sc_NoFit_initS) .none kVNoFit__init__ dcNoFit__init__ pmNoFit__init__ anNoFit__init__ cdNoFit__init__ ctNoFit__init__⟩
  let cs : Cs := ⟨CR, CP, CL⟩
  let xa : ExA := ⟨CNoText, CNoPlace, CNoName, CTwice, CNoDay, CNoAct, CNoRow⟩
  have F : Facts K mg A fd cs xa ft dt := {
    B := ⟨PySem.W.mg_none_of X G hzlen, PySem.W.mg_none_of X G hzint, PySem.W.mg_none_of X G hzstr, PySem.W.mg_none_of X G hztuple, PySem.W.mg_none_of X G hzlist, PySem.W.mg_none_of X G hzdict, PySem.W.mg_none_of X G hzmax, PySem.W.mg_none_of X G hzmin, PySem.W.mg_none_of X G hzsorted, PySem.W.mg_none_of X G hzrange, PySem.W.mg_none_of X G hzzip, PySem.W.mg_none_of X G hzisinstance⟩
    C := ⟨PySem.W.mg_of X G hgF, PySem.W.mg_of X G hgD⟩
    Dfigures_in := ⟨fun_mk (st := sc_figures_inS) hlfigures_in hcfigures_in hkfigures_in, PySem.W.mg_of X G hafigures_in⟩
    Drank_of := ⟨fun_mk (st := sc_rank_ofS) hlrank_of hcrank_of hkrank_of, PySem.W.mg_of X G harank_of⟩
    Dlabel_before := ⟨fun_mk (st := sc_label_beforeS) hllabel_before hclabel_before hklabel_before, PySem.W.mg_of X G halabel_before⟩
    Dkid_of := ⟨fun_mk (st := sc_kid_ofS) hlkid_of hckid_of hkkid_of, PySem.W.mg_of X G hakid_of⟩
    Dnode_at := ⟨fun_mk (st := sc_node_atS) hlnode_at hcnode_at hknode_at, PySem.W.mg_of X G hanode_at⟩
    Ddeep := ⟨fun_mk (st := sc_deepS) hldeep hcdeep hkdeep, PySem.W.mg_of X G hadeep⟩
    Dwith_node := ⟨fun_mk (st := sc_with_nodeS) hlwith_node hcwith_node hkwith_node, PySem.W.mg_of X G hawith_node⟩
    Dthere_at := ⟨fun_mk (st := sc_there_atS) hlthere_at hcthere_at hkthere_at, PySem.W.mg_of X G hathere_at⟩
    Dwith_words := ⟨fun_mk (st := sc_with_wordsS) hlwith_words hcwith_words hkwith_words, PySem.W.mg_of X G hawith_words⟩
    Dwith_kid := ⟨fun_mk (st := sc_with_kidS) hlwith_kid hcwith_kid hkwith_kid, PySem.W.mg_of X G hawith_kid⟩
    Dwithout := ⟨fun_mk (st := sc_withoutS) hlwithout hcwithout hkwithout, PySem.W.mg_of X G hawithout⟩
    D_law_label := ⟨fun_mk (st := sc_law_labelS) hl_law_label hc_law_label hk_law_label, PySem.W.mg_of X G ha_law_label⟩
    D_law_word := ⟨fun_mk (st := sc_law_wordS) hl_law_word hc_law_word hk_law_word, PySem.W.mg_of X G ha_law_word⟩
    D_law_words := ⟨fun_mk (st := sc_law_wordsS) hl_law_words hc_law_words hk_law_words, PySem.W.mg_of X G ha_law_words⟩
    D_law_key := ⟨fun_mk (st := sc_law_keyS) hl_law_key hc_law_key hk_law_key, PySem.W.mg_of X G ha_law_key⟩
    D_law_nodes := ⟨fun_mk (st := sc_law_nodesS) hl_law_nodes hc_law_nodes hk_law_nodes, PySem.W.mg_of X G ha_law_nodes⟩
    D_law_place := ⟨fun_mk (st := sc_law_placeS) hl_law_place hc_law_place hk_law_place, PySem.W.mg_of X G ha_law_place⟩
    D_law_kid := ⟨fun_mk (st := sc_law_kidS) hl_law_kid hc_law_kid hk_law_kid, PySem.W.mg_of X G ha_law_kid⟩
    D_law_laid := ⟨fun_mk (st := sc_law_laidS) hl_law_laid hc_law_laid hk_law_laid, PySem.W.mg_of X G ha_law_laid⟩
    D_law_gone := ⟨fun_mk (st := sc_law_goneS) hl_law_gone hc_law_gone hk_law_gone, PySem.W.mg_of X G ha_law_gone⟩
    D_law_same := ⟨fun_mk (st := sc_law_sameS) hl_law_same hc_law_same hk_law_same, PySem.W.mg_of X G ha_law_same⟩
    D_law_changed := ⟨fun_mk (st := sc_law_changedS) hl_law_changed hc_law_changed hk_law_changed, PySem.W.mg_of X G ha_law_changed⟩
    D_law_less := ⟨fun_mk (st := sc_law_lessS) hl_law_less hc_law_less hk_law_less, PySem.W.mg_of X G ha_law_less⟩
    D_law_deep := ⟨fun_mk (st := sc_law_deepS) hl_law_deep hc_law_deep hk_law_deep, PySem.W.mg_of X G ha_law_deep⟩
    D_law_refused := ⟨fun_mk (st := sc_law_refusedS) hl_law_refused hc_law_refused hk_law_refused, PySem.W.mg_of X G ha_law_refused⟩
    D_law_row_of_nodes := ⟨fun_mk (st := sc_law_row_of_nodesS) hl_law_row_of_nodes hc_law_row_of_nodes hk_law_row_of_nodes, PySem.W.mg_of X G ha_law_row_of_nodes⟩
    D_law_drawn := ⟨fun_mk (st := sc_law_drawnS) hl_law_drawn hc_law_drawn hk_law_drawn, PySem.W.mg_of X G ha_law_drawn⟩
    D_law_why := ⟨fun_mk (st := sc_law_whyS) hl_law_why hc_law_why hk_law_why, PySem.W.mg_of X G ha_law_why⟩
    D_law_made := ⟨fun_mk (st := sc_law_madeS) hl_law_made hc_law_made hk_law_made, PySem.W.mg_of X G ha_law_made⟩
    D_law_fields := ⟨fun_mk (st := sc_law_fieldsS) hl_law_fields hc_law_fields hk_law_fields, PySem.W.mg_of X G ha_law_fields⟩
    D_law_noted := ⟨fun_mk (st := sc_law_notedS) hl_law_noted hc_law_noted hk_law_noted, PySem.W.mg_of X G ha_law_noted⟩
    D_law_says := ⟨fun_mk (st := sc_law_saysS) hl_law_says hc_law_says hk_law_says, PySem.W.mg_of X G ha_law_says⟩
    Dlaw := ⟨fun_mk (st := sc_lawS) hllaw hclaw hklaw, PySem.W.mg_of X G halaw⟩
    D_law_tree := ⟨⟨⟨_, _, _, _, _, _, _, _, rfl, hl_law_tree, hc_law_tree⟩, hk_law_tree⟩, PySem.W.mg_of X G ha_law_tree⟩
    D_law_with := ⟨⟨⟨_, _, _, _, _, _, _, _, rfl, hl_law_with, hc_law_with⟩, hk_law_with⟩, PySem.W.mg_of X G ha_law_with⟩
    D_law_due := ⟨⟨⟨_, _, _, _, _, _, _, _, rfl, hl_law_due, hc_law_due⟩, hk_law_due⟩, PySem.W.mg_of X G ha_law_due⟩
    DRead__init__ := ⟨fun_mk (st := sc_Read_initS) hlRead__init__ hcRead__init__ hkRead__init__⟩
    DReadreason := ⟨fun_mk (st := sc_Read_reasonS) hlReadreason hcReadreason hkReadreason⟩
    DReadmade := ⟨fun_mk (st := sc_Read_madeS) hlReadmade hcReadmade hkReadmade⟩
    DPutIn__init__ := ⟨fun_mk (st := sc_PutIn_initS) hlPutIn__init__ hcPutIn__init__ hkPutIn__init__⟩
    DPutInreason := ⟨fun_mk (st := sc_PutIn_reasonS) hlPutInreason hcPutInreason hkPutInreason⟩
    DPutInmade := ⟨fun_mk (st := sc_PutIn_madeS) hlPutInmade hcPutInmade hkPutInmade⟩
    DLeaveOut__init__ := ⟨fun_mk (st := sc_LeaveOut_initS) hlLeaveOut__init__ hcLeaveOut__init__ hkLeaveOut__init__⟩
    DLeaveOutreason := ⟨fun_mk (st := sc_LeaveOut_reasonS) hlLeaveOutreason hcLeaveOutreason hkLeaveOutreason⟩
    DLeaveOutmade := ⟨fun_mk (st := sc_LeaveOut_madeS) hlLeaveOutmade hcLeaveOutmade hkLeaveOutmade⟩
    DChangedone := ⟨fun_mk (st := sc_Change_doneS) hlChangedone hcChangedone hkChangedone⟩
    DNoFit__init__ := ⟨fun_mk (st := sc_NoFit_initS) hlNoFit__init__ hcNoFit__init__ hkNoFit__init__⟩
    cok := ⟨⟨⟨hpgR, hhdR, hpoR, hsaR⟩, hnpR, hnwR, hnnR⟩, ⟨⟨hpgP, hhdP, hpoP, hsaP⟩, hnpP, hnwP, hnnP⟩, ⟨⟨hpgL, hhdL, hpoL, hsaL⟩, hnpL, hnwL, hnnL⟩⟩
    kR := ⟨hmkR, hfiR, hiRead__init__, hkcR⟩
    gR := PySem.W.mg_of X G hgR
    rR := ⟨hfrR, hiReadreason, hkReadreason⟩
    mR := ⟨hfmR, hiReadmade, hkReadmade⟩
    dR := ⟨hfdR, hiChangedone, hkChangedone⟩
    kP := ⟨hmkP, hfiP, hiPutIn__init__, hkcP⟩
    gP := PySem.W.mg_of X G hgP
    rP := ⟨hfrP, hiPutInreason, hkPutInreason⟩
    mP := ⟨hfmP, hiPutInmade, hkPutInmade⟩
    dP := ⟨hfdP, hiChangedone, hkChangedone⟩
    kL := ⟨hmkL, hfiL, hiLeaveOut__init__, hkcL⟩
    gL := PySem.W.mg_of X G hgL
    rL := ⟨hfrL, hiLeaveOutreason, hkLeaveOutreason⟩
    mL := ⟨hfmL, hiLeaveOutmade, hkLeaveOutmade⟩
    dL := ⟨hfdL, hiChangedone, hkChangedone⟩
    gCH := PySem.W.mg_of X G hgH
    isc := ⟨(fun d => match d with | .read _ _ => hccR | .put _ _ => hccP | .out _ => hccL), hspc, htkc, (fun d => match d with | .read _ _ => hmrR | .put _ _ => hmrP | .out _ => hmrL), (fun d => match d with | .read _ _ => kit_yes hicH htyH hsbR | .put _ _ => kit_yes hicH htyH hsbP | .out _ => kit_yes hicH htyH hsbL)⟩
    ox := ⟨⟨_, _, _, _, _, _, _, _, _, _, _, _, _, _, _, hxL, hrv⟩, hsaN, hexN, htyN, hkcN⟩
    iN := hiN
    tN := htiN
    xf := ⟨PySem.W.mg_of X G hgM, PySem.W.mg_of X G hgN, PySem.W.mg_none_of X G hzVE, PySem.W.exm_ref hexM hhdM htyM hsbM, ⟨hgaN, hggN, hexN, hhdN, hclN, hspc, htkc, hmrN⟩, ⟨hgaN, hggN, hexN, hhdN⟩, hnoN, kit_self, kit_ve hveN⟩
    xo := ⟨⟨PySem.W.mg_of X G hgNoText, kit_no hneNoText hicNoText htyNoText hsbNoText⟩, ⟨PySem.W.mg_of X G hgNoPlace, kit_no hneNoPlace hicNoPlace htyNoPlace hsbNoPlace⟩, ⟨PySem.W.mg_of X G hgNoName, kit_no hneNoName hicNoName htyNoName hsbNoName⟩, ⟨PySem.W.mg_of X G hgTwice, kit_no hneTwice hicTwice htyTwice hsbTwice⟩, ⟨PySem.W.mg_of X G hgNoDay, kit_no hneNoDay hicNoDay htyNoDay hsbNoDay⟩, ⟨PySem.W.mg_of X G hgNoAct, kit_no hneNoAct hicNoAct htyNoAct hsbNoAct⟩, ⟨PySem.W.mg_of X G hgNoRow, kit_no hneNoRow hicNoRow htyNoRow hsbNoRow⟩⟩
    n1 := hn1
    n2 := hn2
    n3 := hn3 }
  refine ⟨fd.dlaw, [(c_law_tree_, p_law_tree_), (c_law_with_, p_law_with_), (c_law_due_, p_law_due_)], spLaw K A.T, ?_, ?_, ?_, fun s u => .of_eq rfl, fun H a ns hn _ hT hS => ⟨a, ns, rfl, hS, hn, ?_, fun _ => rfl⟩, fun base _ _ hB => ?_⟩
  · intro p hp
    simp only [List.mem_cons, List.not_mem_nil, or_false] at hp
    rcases hp with rfl | rfl | rfl
    · exact he_law_tree
    · exact he_law_with
    · exact he_law_due
  · intro p hp
    simp only [List.mem_cons, List.not_mem_nil, or_false] at hp
    rcases hp with rfl | rfl | rfl
    · exact hu_law_tree
    · exact hu_law_with
    · exact hu_law_due
  · intro p hp
    simp only [List.mem_cons, List.not_mem_nil, or_false] at hp
    rcases hp with rfl | rfl | rfl
    · exact PySem.W.codeHd_of_K X ht_law_tree
    · exact PySem.W.codeHd_of_K X ht_law_with
    · exact PySem.W.codeHd_of_K X ht_law_due
  · intro p hp
    have hp : p ∈ [(p_law_tree_, ("_law_tree.<locals>.<lambda>" : Str)), (p_law_with_, ("_law_with.<locals>.<lambda>" : Str)), (p_law_due_, dueQ)] := hp
    simp only [List.mem_cons, List.not_mem_nil, or_false] at hp
    rcases hp with rfl | rfl | rfl
    · exact TabS.nil (hT (c_law_tree_, p_law_tree_) List.mem_cons_self)
    · exact TabS.nil (hT (c_law_with_, p_law_with_) (List.mem_cons_of_mem _ List.mem_cons_self))
    · exact TabS.nil (hT (c_law_due_, p_law_due_) (List.mem_cons_of_mem _ (List.mem_cons_of_mem _ List.mem_cons_self)))
  · exact chain F (hB (c_law_tree_, p_law_tree_) List.mem_cons_self) (hB (c_law_with_, p_law_with_) (List.mem_cons_of_mem _ List.mem_cons_self)) (hB (c_law_due_, p_law_due_) (List.mem_cons_of_mem _ (List.mem_cons_of_mem _ List.mem_cons_self)))
end Cm
end

open PySem PySem.W PyProof.Rows in
set_option maxRecDepth 100000 in
set_option maxHeartbeats 0 in
theorem PySem.Challenge.cw_codemend_k22_reads_and_put_ins_holds : PySem.Challenge.rw_codemend_k22_reads_and_put_ins.Holds := by
  w_on; o_law; k_head; (case hw => w_witness2)
  k_fill
  refine LamX.walk_ofTs (l := PySem.Challenge.rw_codemend_k22_reads_and_put_ins) (n := 63) (k := 23) (x := "_law_script") (CX := fun _ => L2.CX0) rfl (by decide) rfl ⟨rfl, by decide, by decide⟩ (fun w h Y => Y.1) ?F (fun _ _ _ _ _ z => z)
  case F =>
    intro w mg fa h Y KX G hmg
    have hT8 := PySem.W.km_tabs_of Y
    refine' Cm.all_mk KX G hmg ?hafigures_in ?hlfigures_in ?hcfigures_in ?hkfigures_in ?harank_of ?hlrank_of ?hcrank_of ?hkrank_of ?halabel_before ?hllabel_before ?hclabel_before ?hklabel_before ?hakid_of ?hlkid_of ?hckid_of ?hkkid_of ?hanode_at ?hlnode_at ?hcnode_at ?hknode_at ?hadeep ?hldeep ?hcdeep ?hkdeep ?hawith_node ?hlwith_node ?hcwith_node ?hkwith_node ?hathere_at ?hlthere_at ?hcthere_at ?hkthere_at ?hawith_words ?hlwith_words ?hcwith_words ?hkwith_words ?hawith_kid ?hlwith_kid ?hcwith_kid ?hkwith_kid ?hawithout ?hlwithout ?hcwithout ?hkwithout ?ha_law_label ?hl_law_label ?hc_law_label ?hk_law_label ?ha_law_word ?hl_law_word ?hc_law_word ?hk_law_word ?ha_law_words ?hl_law_words ?hc_law_words ?hk_law_words ?ha_law_key ?hl_law_key ?hc_law_key ?hk_law_key ?ha_law_nodes ?hl_law_nodes ?hc_law_nodes ?hk_law_nodes ?ha_law_place ?hl_law_place ?hc_law_place ?hk_law_place ?ha_law_kid ?hl_law_kid ?hc_law_kid ?hk_law_kid ?ha_law_laid ?hl_law_laid ?hc_law_laid ?hk_law_laid ?ha_law_gone ?hl_law_gone ?hc_law_gone ?hk_law_gone ?ha_law_same ?hl_law_same ?hc_law_same ?hk_law_same ?ha_law_changed ?hl_law_changed ?hc_law_changed ?hk_law_changed ?ha_law_less ?hl_law_less ?hc_law_less ?hk_law_less ?ha_law_deep ?hl_law_deep ?hc_law_deep ?hk_law_deep ?ha_law_refused ?hl_law_refused ?hc_law_refused ?hk_law_refused ?ha_law_row_of_nodes ?hl_law_row_of_nodes ?hc_law_row_of_nodes ?hk_law_row_of_nodes ?ha_law_drawn ?hl_law_drawn ?hc_law_drawn ?hk_law_drawn ?ha_law_why ?hl_law_why ?hc_law_why ?hk_law_why ?ha_law_made ?hl_law_made ?hc_law_made ?hk_law_made ?ha_law_fields ?hl_law_fields ?hc_law_fields ?hk_law_fields ?ha_law_noted ?hl_law_noted ?hc_law_noted ?hk_law_noted ?ha_law_says ?hl_law_says ?hc_law_says ?hk_law_says ?halaw ?hllaw ?hclaw ?hklaw ?ha_law_tree ?hl_law_tree ?hc_law_tree ?hk_law_tree ?ht_law_tree ?hu_law_tree ?he_law_tree ?ha_law_with ?hl_law_with ?hc_law_with ?hk_law_with ?ht_law_with ?hu_law_with ?he_law_with ?ha_law_due ?hl_law_due ?hc_law_due ?hk_law_due ?ht_law_due ?hu_law_due ?he_law_due ?hn1 ?hn2 ?hn3 ?hgR ?hgP ?hgL ?hgH ?hgN ?hgM ?hgNoText ?hgNoPlace ?hgNoName ?hgTwice ?hgNoDay ?hgNoAct ?hgNoRow ?hpgR ?hhdR ?hpoR ?hsaR ?hnpR ?hnwR ?hnnR ?hccR ?hmrR ?hsbR ?hmkR ?hkcR ?hfiR ?hfrR ?hfmR ?hfdR ?hpgP ?hhdP ?hpoP ?hsaP ?hnpP ?hnwP ?hnnP ?hccP ?hmrP ?hsbP ?hmkP ?hkcP ?hfiP ?hfrP ?hfmP ?hfdP ?hpgL ?hhdL ?hpoL ?hsaL ?hnpL ?hnwL ?hnnL ?hccL ?hmrL ?hsbL ?hmkL ?hkcL ?hfiL ?hfrL ?hfmL ?hfdL ?hiN ?hlRead__init__ ?hcRead__init__ ?hkRead__init__ ?hiRead__init__ ?hlReadreason ?hcReadreason ?hkReadreason ?hiReadreason ?hlReadmade ?hcReadmade ?hkReadmade ?hiReadmade ?hlPutIn__init__ ?hcPutIn__init__ ?hkPutIn__init__ ?hiPutIn__init__ ?hlPutInreason ?hcPutInreason ?hkPutInreason ?hiPutInreason ?hlPutInmade ?hcPutInmade ?hkPutInmade ?hiPutInmade ?hlLeaveOut__init__ ?hcLeaveOut__init__ ?hkLeaveOut__init__ ?hiLeaveOut__init__ ?hlLeaveOutreason ?hcLeaveOutreason ?hkLeaveOutreason ?hiLeaveOutreason ?hlLeaveOutmade ?hcLeaveOutmade ?hkLeaveOutmade ?hiLeaveOutmade ?hlChangedone ?hcChangedone ?hkChangedone ?hiChangedone ?hlNoFit__init__ ?hcNoFit__init__ ?hkNoFit__init__ ?hiNoFit__init__ ?hicH ?htyH ?hspc ?htkc ?hxL ?hrv ?hsaN ?hgaN ?hggN ?hexN ?htyN ?hkcN ?htiN ?hhdN ?hnoN ?hclN ?hmrN ?hveN ?hexM ?hhdM ?htyM ?hsbM ?hicNoText ?htyNoText ?hsbNoText ?hneNoText ?hicNoPlace ?htyNoPlace ?hsbNoPlace ?hneNoPlace ?hicNoName ?htyNoName ?hsbNoName ?hneNoName ?hicTwice ?htyTwice ?hsbTwice ?hneTwice ?hicNoDay ?htyNoDay ?hsbNoDay ?hneNoDay ?hicNoAct ?htyNoAct ?hsbNoAct ?hneNoAct ?hicNoRow ?htyNoRow ?hsbNoRow ?hneNoRow ?hzlen ?hzint ?hzstr ?hztuple ?hzlist ?hzdict ?hzmax ?hzmin ?hzsorted ?hzrange ?hzzip ?hzisinstance ?hzVE ?hgF ?hgD
    (case hafigures_in => k_is)
    (case hlfigures_in => k_is)
    (case hcfigures_in => k_is)
    (case hkfigures_in => k_is)
    (case harank_of => k_is)
    (case hlrank_of => k_is)
    (case hcrank_of => k_is)
    (case hkrank_of => k_is)
    (case halabel_before => k_is)
    (case hllabel_before => k_is)
    (case hclabel_before => k_is)
    (case hklabel_before => k_is)
    (case hakid_of => k_is)
    (case hlkid_of => k_is)
    (case hckid_of => k_is)
    (case hkkid_of => k_is)
    (case hanode_at => k_is)
    (case hlnode_at => k_is)
    (case hcnode_at => k_is)
    (case hknode_at => k_is)
    (case hadeep => k_is)
    (case hldeep => k_is)
    (case hcdeep => k_is)
    (case hkdeep => k_is)
    (case hawith_node => k_is)
    (case hlwith_node => k_is)
    (case hcwith_node => k_is)
    (case hkwith_node => k_is)
    (case hathere_at => k_is)
    (case hlthere_at => k_is)
    (case hcthere_at => k_is)
    (case hkthere_at => k_is)
    (case hawith_words => k_is)
    (case hlwith_words => k_is)
    (case hcwith_words => k_is)
    (case hkwith_words => k_is)
    (case hawith_kid => k_is)
    (case hlwith_kid => k_is)
    (case hcwith_kid => k_is)
    (case hkwith_kid => k_is)
    (case hawithout => k_is)
    (case hlwithout => k_is)
    (case hcwithout => k_is)
    (case hkwithout => k_is)
    (case ha_law_label => k_is)
    (case hl_law_label => k_is)
    (case hc_law_label => k_is)
    (case hk_law_label => k_is)
    (case ha_law_word => k_is)
    (case hl_law_word => k_is)
    (case hc_law_word => k_is)
    (case hk_law_word => k_is)
    (case ha_law_words => k_is)
    (case hl_law_words => k_is)
    (case hc_law_words => k_is)
    (case hk_law_words => k_is)
    (case ha_law_key => k_is)
    (case hl_law_key => k_is)
    (case hc_law_key => k_is)
    (case hk_law_key => k_is)
    (case ha_law_nodes => k_is)
    (case hl_law_nodes => k_is)
    (case hc_law_nodes => k_is)
    (case hk_law_nodes => k_is)
    (case ha_law_place => k_is)
    (case hl_law_place => k_is)
    (case hc_law_place => k_is)
    (case hk_law_place => k_is)
    (case ha_law_kid => k_is)
    (case hl_law_kid => k_is)
    (case hc_law_kid => k_is)
    (case hk_law_kid => k_is)
    (case ha_law_laid => k_is)
    (case hl_law_laid => k_is)
    (case hc_law_laid => k_is)
    (case hk_law_laid => k_is)
    (case ha_law_gone => k_is)
    (case hl_law_gone => k_is)
    (case hc_law_gone => k_is)
    (case hk_law_gone => k_is)
    (case ha_law_same => k_is)
    (case hl_law_same => k_is)
    (case hc_law_same => k_is)
    (case hk_law_same => k_is)
    (case ha_law_changed => k_is)
    (case hl_law_changed => k_is)
    (case hc_law_changed => k_is)
    (case hk_law_changed => k_is)
    (case ha_law_less => k_is)
    (case hl_law_less => k_is)
    (case hc_law_less => k_is)
    (case hk_law_less => k_is)
    (case ha_law_deep => k_is)
    (case hl_law_deep => k_is)
    (case hc_law_deep => k_is)
    (case hk_law_deep => k_is)
    (case ha_law_refused => k_is)
    (case hl_law_refused => k_is)
    (case hc_law_refused => k_is)
    (case hk_law_refused => k_is)
    (case ha_law_row_of_nodes => k_is)
    (case hl_law_row_of_nodes => k_is)
    (case hc_law_row_of_nodes => k_is)
    (case hk_law_row_of_nodes => k_is)
    (case ha_law_drawn => k_is)
    (case hl_law_drawn => k_is)
    (case hc_law_drawn => k_is)
    (case hk_law_drawn => k_is)
    (case ha_law_why => k_is)
    (case hl_law_why => k_is)
    (case hc_law_why => k_is)
    (case hk_law_why => k_is)
    (case ha_law_made => k_is)
    (case hl_law_made => k_is)
    (case hc_law_made => k_is)
    (case hk_law_made => k_is)
    (case ha_law_fields => k_is)
    (case hl_law_fields => k_is)
    (case hc_law_fields => k_is)
    (case hk_law_fields => k_is)
    (case ha_law_noted => k_is)
    (case hl_law_noted => k_is)
    (case hc_law_noted => k_is)
    (case hk_law_noted => k_is)
    (case ha_law_says => k_is)
    (case hl_law_says => k_is)
    (case hc_law_says => k_is)
    (case hk_law_says => k_is)
    (case halaw => k_is)
    (case hllaw => k_is)
    (case hclaw => k_is)
    (case hklaw => k_is)
    (case ha_law_tree => k_is)
    (case hl_law_tree => k_is)
    (case hc_law_tree => k_is)
    (case hk_law_tree => k_is)
    (case ht_law_tree => exact (show PySem.W.codeHdIn _ _ 389 = true by kernel_rfl))
    (case hu_law_tree => kernel_rfl)
    (case he_law_tree => exact hT8 _ (by decide))
    (case ha_law_with => k_is)
    (case hl_law_with => k_is)
    (case hc_law_with => k_is)
    (case hk_law_with => k_is)
    (case ht_law_with => exact (show PySem.W.codeHdIn _ _ 434 = true by kernel_rfl))
    (case hu_law_with => kernel_rfl)
    (case he_law_with => exact hT8 _ (by decide))
    (case ha_law_due => k_is)
    (case hl_law_due => k_is)
    (case hc_law_due => k_is)
    (case hk_law_due => k_is)
    (case ht_law_due => exact (show PySem.W.codeHdIn _ _ 493 = true by kernel_rfl))
    (case hu_law_due => kernel_rfl)
    (case he_law_due => exact hT8 _ (by decide))
    (case hn1 => decide)
    (case hn2 => decide)
    (case hn3 => decide)
    (case hgR => k_is)
    (case hgP => k_is)
    (case hgL => k_is)
    (case hgH => k_is)
    (case hgN => k_is)
    (case hgM => k_is)
    (case hgNoText => k_is)
    (case hgNoPlace => k_is)
    (case hgNoName => k_is)
    (case hgTwice => k_is)
    (case hgNoDay => k_is)
    (case hgNoAct => k_is)
    (case hgNoRow => k_is)
    (case hpgR => k_is)
    (case hhdR => k_is)
    (case hpoR => k_is)
    (case hsaR => k_is)
    (case hnpR => k_is)
    (case hnwR => k_is)
    (case hnnR => k_is)
    (case hccR => k_is)
    (case hmrR => k_is)
    (case hsbR => k_is)
    (case hmkR => k_is)
    (case hkcR => k_is)
    (case hfiR => k_is)
    (case hfrR => k_is)
    (case hfmR => k_is)
    (case hfdR => k_is)
    (case hpgP => k_is)
    (case hhdP => k_is)
    (case hpoP => k_is)
    (case hsaP => k_is)
    (case hnpP => k_is)
    (case hnwP => k_is)
    (case hnnP => k_is)
    (case hccP => k_is)
    (case hmrP => k_is)
    (case hsbP => k_is)
    (case hmkP => k_is)
    (case hkcP => k_is)
    (case hfiP => k_is)
    (case hfrP => k_is)
    (case hfmP => k_is)
    (case hfdP => k_is)
    (case hpgL => k_is)
    (case hhdL => k_is)
    (case hpoL => k_is)
    (case hsaL => k_is)
    (case hnpL => k_is)
    (case hnwL => k_is)
    (case hnnL => k_is)
    (case hccL => k_is)
    (case hmrL => k_is)
    (case hsbL => k_is)
    (case hmkL => k_is)
    (case hkcL => k_is)
    (case hfiL => k_is)
    (case hfrL => k_is)
    (case hfmL => k_is)
    (case hfdL => k_is)
    (case hiN => k_is)
    (case hlRead__init__ => k_is)
    (case hcRead__init__ => k_is)
    (case hkRead__init__ => k_is)
    (case hiRead__init__ => k_is)
    (case hlReadreason => k_is)
    (case hcReadreason => k_is)
    (case hkReadreason => k_is)
    (case hiReadreason => k_is)
    (case hlReadmade => k_is)
    (case hcReadmade => k_is)
    (case hkReadmade => k_is)
    (case hiReadmade => k_is)
    (case hlPutIn__init__ => k_is)
    (case hcPutIn__init__ => k_is)
    (case hkPutIn__init__ => k_is)
    (case hiPutIn__init__ => k_is)
    (case hlPutInreason => k_is)
    (case hcPutInreason => k_is)
    (case hkPutInreason => k_is)
    (case hiPutInreason => k_is)
    (case hlPutInmade => k_is)
    (case hcPutInmade => k_is)
    (case hkPutInmade => k_is)
    (case hiPutInmade => k_is)
    (case hlLeaveOut__init__ => k_is)
    (case hcLeaveOut__init__ => k_is)
    (case hkLeaveOut__init__ => k_is)
    (case hiLeaveOut__init__ => k_is)
    (case hlLeaveOutreason => k_is)
    (case hcLeaveOutreason => k_is)
    (case hkLeaveOutreason => k_is)
    (case hiLeaveOutreason => k_is)
    (case hlLeaveOutmade => k_is)
    (case hcLeaveOutmade => k_is)
    (case hkLeaveOutmade => k_is)
    (case hiLeaveOutmade => k_is)
    (case hlChangedone => k_is)
    (case hcChangedone => k_is)
    (case hkChangedone => k_is)
    (case hiChangedone => k_is)
    (case hlNoFit__init__ => k_is)
    (case hcNoFit__init__ => k_is)
    (case hkNoFit__init__ => k_is)
    (case hiNoFit__init__ => k_is)
    (case hicH => k_is)
    (case htyH => k_is)
    (case hspc => k_is)
    (case htkc => k_is)
    (case hxL => k_is)
    (case hrv => decide +kernel)
    (case hsaN => k_is)
    (case hgaN => k_is)
    (case hggN => k_is)
    (case hexN => k_is)
    (case htyN => k_is)
    (case hkcN => k_is)
    (case htiN => k_is)
    (case hhdN => k_is)
    (case hnoN => k_is)
    (case hclN => k_is)
    (case hmrN => k_is)
    (case hveN => k_is)
    (case hexM => k_is)
    (case hhdM => k_is)
    (case htyM => k_is)
    (case hsbM => k_is)
    (case hicNoText => k_is)
    (case htyNoText => k_is)
    (case hsbNoText => k_is)
    (case hneNoText => rfl)
    (case hicNoPlace => k_is)
    (case htyNoPlace => k_is)
    (case hsbNoPlace => k_is)
    (case hneNoPlace => rfl)
    (case hicNoName => k_is)
    (case htyNoName => k_is)
    (case hsbNoName => k_is)
    (case hneNoName => rfl)
    (case hicTwice => k_is)
    (case htyTwice => k_is)
    (case hsbTwice => k_is)
    (case hneTwice => rfl)
    (case hicNoDay => k_is)
    (case htyNoDay => k_is)
    (case hsbNoDay => k_is)
    (case hneNoDay => rfl)
    (case hicNoAct => k_is)
    (case htyNoAct => k_is)
    (case hsbNoAct => k_is)
    (case hneNoAct => rfl)
    (case hicNoRow => k_is)
    (case htyNoRow => k_is)
    (case hsbNoRow => k_is)
    (case hneNoRow => rfl)
    (case hzlen => k_is)
    (case hzint => k_is)
    (case hzstr => k_is)
    (case hztuple => k_is)
    (case hzlist => k_is)
    (case hzdict => k_is)
    (case hzmax => k_is)
    (case hzmin => k_is)
    (case hzsorted => k_is)
    (case hzrange => k_is)
    (case hzzip => k_is)
    (case hzisinstance => k_is)
    (case hzVE => k_is)
    (case hgF => k_is)
    (case hgD => k_is)
#print axioms PySem.Challenge.cw_codemend_k22_reads_and_put_ins_holds
